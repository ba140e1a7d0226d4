import PyProof.Rows.All
import Wide.All
import OpenK.AllK
import Wide.FinOn
import PySem.Challenge.RW_tonguesalike_k40_whole_least_sizes
import HandS.ForMost
import HandS.Walk
import HandS.TupAny
import HandS.Deep
import HandS.Flow
import HandS.IsInst
import KE.GoesEnum
import KE.GoesMore
import HandS.Zip
import HandS.Strs
import HandS.SetKeys
import HandS.TupMul
import HandS.More
import KE.KTupSum
import KE.SortData
set_option Elab.async false
set_option linter.all false
set_option maxRecDepth 100000
/-! P1: data, how values and heaps hold them, the state of a body -/
namespace Pv
open PySem PySem.Spec PyProof.Rows L2
/-- data -/
inductive D where
  | non | bl (b : Bool) | int (i : Int) | str (s : Str) | tup (xs : List D) | lst (xs : List D) | dct (t : Bool) (kvs : List (List Key × D)) | scr (ns : List Int) | ktp (xs : List D)
/-- the object of a dict: its keys are ints and texts (t false), or tuples of such -/
def hoD (t : Bool) (xs : List (List Key × V)) : HO := match t with
  | true => .dT xs
  | false => .dK (xs.map fun p => (p.1.headD (.inl 0), p.2))
def keysOk (t : Bool) (xs : List (List Key × V)) : Prop := t = false → ∀ p ∈ xs, ∃ k, p.1 = [k]
/-- a tuple with no dict of its own: one of the module's, or one whose object is known -/
def FT (od : Obj) : Prop := od.cls = .type "tuple" ∧ od.dict = none
def KTup (K : PySem.W.Frag) (G : Hp) (a : Addr) (xs : List V) : Prop := (∃ (o : Obj) (its : Array Value) (n : Nat), K.lookup a = some o ∧ o.cls = .type "tuple" ∧ o.dict = none ∧ o.data = .seq its n ∧ its.size ≤ sizeLine ∧ Vals xs its.toList) ∨ ∃ od, FT od ∧ G a = some (.frz od (.tup xs))
theorem KTup.mono {K : PySem.W.Frag} {G G' : Hp} {a : Addr} {xs : List V} (e : Same G G') (h : KTup K G a xs) : KTup K G' a xs := h.elim .inl fun ⟨od, h1, h2⟩ => .inr ⟨od, h1, e _ _ h2⟩
theorem KTup.sq {K : PySem.W.Frag} {G : Hp} {a : Addr} {xs : List V} (h : KTup K G a xs) : SqT K G a xs := h.elim (fun ⟨o, its, n, h1, h2, _, h3⟩ => .inr ⟨o, its, n, h1, h2, h3⟩) fun ⟨od, h1, h2⟩ => .inl (.inr ⟨od, h2⟩)
mutual
def RepF (K : PySem.W.Frag) (G : Hp) : D → V → Prop
  | .non, v => v = .non
  | .bl b, v => v = .bl b
  | .int i, v => v = .int i
  | .str s, v => v = .str s
  | .tup ds, v => ∃ a xs, v = .ref a ∧ G a = some (.tup xs) ∧ RepFs K G ds xs
  | .lst ds, v => ∃ a xs, v = .ref a ∧ G a = some (.lst xs) ∧ RepFs K G ds xs
  | .dct t ds, v => ∃ a xs, v = .ref a ∧ Rd G a (hoD t xs) ∧ keysOk t xs ∧ RepFk K G ds xs
  | .scr ns, v => ∃ a, v = .ref a ∧ SqL K G a (ns.map V.int)
  | .ktp ds, v => ∃ a xs, v = .ref a ∧ KTup K G a xs ∧ RepFs K G ds xs
def RepFs (K : PySem.W.Frag) (G : Hp) : List D → List V → Prop
  | [], xs => xs = []
  | d :: ds, xs => ∃ x r, xs = x :: r ∧ RepF K G d x ∧ RepFs K G ds r
def RepFk (K : PySem.W.Frag) (G : Hp) : List (List Key × D) → List (List Key × V) → Prop
  | [], xs => xs = []
  | (k, d) :: ds, xs => ∃ x r, xs = (k, x) :: r ∧ RepF K G d x ∧ RepFk K G ds r
end
/-- owned lists and dicts to the depth k, at the addresses F -/
def ROs (R : D → V → List Addr → Prop) : List D → List V → List Addr → Prop
  | [], xs, F => xs = [] ∧ F = []
  | d :: ds, xs, F => ∃ x r F1 F2, xs = x :: r ∧ F = F1 ++ F2 ∧ R d x F1 ∧ ROs R ds r F2
def ROk (R : D → V → List Addr → Prop) : List (List Key × D) → List (List Key × V) → List Addr → Prop
  | [], xs, F => xs = [] ∧ F = []
  | (k, d) :: ds, xs, F => ∃ x r F1 F2, xs = (k, x) :: r ∧ F = F1 ++ F2 ∧ R d x F1 ∧ ROk R ds r F2
def RO (K : PySem.W.Frag) (G H : Hp) : Nat → D → V → List Addr → Prop
  | 0, d, v, F => RepF K G d v ∧ F = []
  | k + 1, .lst ds, v, F => ∃ a xs F', v = .ref a ∧ H a = some (.lst xs) ∧ F = a :: F' ∧ ROs (RO K G H k) ds xs F'
  | k + 1, .dct t ds, v, F => ∃ a xs F', v = .ref a ∧ H a = some (hoD t xs) ∧ keysOk t xs ∧ F = a :: F' ∧ ROk (RO K G H k) ds xs F'
  | _ + 1, d, v, F => RepF K G d v ∧ F = []
section
variable {K : PySem.W.Frag} {G G' H H' : Hp}
theorem same_rd (e : Same G G') {a : Addr} {u : HO} (h : Rd G a u) : Rd G' a u := by
  rcases h with h | ⟨o, h⟩
  · exact .inl (e a _ h)
  · exact .inr ⟨o, e a _ h⟩
theorem same_t (e : Same G G') {a : Addr} {xs : List V} (h : SqT K G a xs) : SqT K G' a xs := by
  rcases h with h | h
  · exact .inl (same_rd e h)
  · exact .inr h
theorem same_l (e : Same G G') {a : Addr} {xs : List V} (h : SqL K G a xs) : SqL K G' a xs := by
  rcases h with h | h
  · exact .inl (same_rd e h)
  · exact .inr h
mutual
theorem RepF.mono (e : Same G G') : ∀ (d : D) (v : V), RepF K G d v → RepF K G' d v
  | .non, _, h => h
  | .bl _, _, h => h
  | .int _, _, h => h
  | .str _, _, h => h
  | .tup ds, _, ⟨a, xs, h1, h2, h3⟩ => ⟨a, xs, h1, e _ _ h2, RepFs.mono e ds xs h3⟩
  | .ktp ds, _, ⟨a, xs, h1, h2, h3⟩ => ⟨a, xs, h1, h2.mono e, RepFs.mono e ds xs h3⟩
  | .lst ds, _, ⟨a, xs, h1, h2, h3⟩ => ⟨a, xs, h1, e _ _ h2, RepFs.mono e ds xs h3⟩
  | .dct t ds, _, ⟨a, xs, h1, h2, h4, h3⟩ => ⟨a, xs, h1, same_rd e h2, h4, RepFk.mono e ds xs h3⟩
  | .scr ns, _, ⟨a, h1, h2⟩ => ⟨a, h1, same_l e h2⟩
theorem RepFs.mono (e : Same G G') : ∀ (ds : List D) (xs : List V), RepFs K G ds xs → RepFs K G' ds xs
  | [], _, h => h
  | d :: ds, _, ⟨x, r, h1, h2, h3⟩ => ⟨x, r, h1, RepF.mono e d x h2, RepFs.mono e ds r h3⟩
theorem RepFk.mono (e : Same G G') : ∀ (ds : List (List Key × D)) (xs : List (List Key × V)), RepFk K G ds xs → RepFk K G' ds xs
  | [], _, h => h
  | (_, d) :: ds, _, ⟨x, r, h1, h2, h3⟩ => ⟨x, r, h1, RepF.mono e d x h2, RepFk.mono e ds r h3⟩
end
theorem ROs.imp {R R' : D → V → List Addr → Prop} : ∀ (ds : List D) (xs : List V) (F : List Addr), (∀ d v F1, (∀ a ∈ F1, a ∈ F) → R d v F1 → R' d v F1) → ROs R ds xs F → ROs R' ds xs F
  | [], _, _, _, h => h
  | d :: ds, _, _, f, ⟨x, r, F1, F2, h1, h2, h3, h4⟩ => ⟨x, r, F1, F2, h1, h2, f _ _ _ (fun a h => by rw [h2]; exact List.mem_append_left _ h) h3,
      ROs.imp ds r F2 (fun d v F3 h => f d v F3 fun a ha => by rw [h2]; exact List.mem_append_right _ (h a ha)) h4⟩
theorem ROk.imp {R R' : D → V → List Addr → Prop} : ∀ (ds : List (List Key × D)) (xs : List (List Key × V)) (F : List Addr), (∀ d v F1, (∀ a ∈ F1, a ∈ F) → R d v F1 → R' d v F1) → ROk R ds xs F → ROk R' ds xs F
  | [], _, _, _, h => h
  | (_, d) :: ds, _, _, f, ⟨x, r, F1, F2, h1, h2, h3, h4⟩ => ⟨x, r, F1, F2, h1, h2, f _ _ _ (fun a h => by rw [h2]; exact List.mem_append_left _ h) h3,
      ROk.imp ds r F2 (fun d v F3 h => f d v F3 fun a ha => by rw [h2]; exact List.mem_append_right _ (h a ha)) h4⟩
theorem RO.mono (e : Same G G') : ∀ (k : Nat) (d : D) (v : V) (F : List Addr), (∀ a ∈ F, H' a = H a) → RO K G H k d v F → RO K G' H' k d v F
  | 0, d, v, _, _, h => ⟨RepF.mono e d v h.1, h.2⟩
  | k + 1, .lst ds, _, F, f, ⟨a, xs, F', h1, h2, h3, h4⟩ => ⟨a, xs, F', h1, by rw [f a (by rw [h3]; exact List.mem_cons_self), h2], h3,
      ROs.imp ds xs F' (fun d v F1 s => RO.mono e k d v F1 fun b hb => f b (by rw [h3]; exact List.mem_cons_of_mem _ (s b hb))) h4⟩
  | k + 1, .dct t ds, _, F, f, ⟨a, xs, F', h1, h2, h5, h3, h4⟩ => ⟨a, xs, F', h1, by rw [f a (by rw [h3]; exact List.mem_cons_self), h2], h5, h3,
      ROk.imp ds xs F' (fun d v F1 s => RO.mono e k d v F1 fun b hb => f b (by rw [h3]; exact List.mem_cons_of_mem _ (s b hb))) h4⟩
  | k + 1, .non, v, _, _, h => h
  | k + 1, .bl _, v, _, _, h => h
  | k + 1, .int _, v, _, _, h => h
  | k + 1, .str _, v, _, _, h => h
  | k + 1, .tup ds, v, _, _, h => ⟨RepF.mono e (.tup ds) v h.1, h.2⟩
  | k + 1, .scr ns, v, _, _, h => ⟨RepF.mono e (.scr ns) v h.1, h.2⟩
  | k + 1, .ktp ds, v, _, _, h => ⟨RepF.mono e (.ktp ds) v h.1, h.2⟩
/-- read as frozen, in a heap that holds what is owned -/
theorem ROs.toF {R : D → V → List Addr → Prop} : ∀ (ds : List D) (xs : List V) (F : List Addr), (∀ d v F1, (∀ a ∈ F1, a ∈ F) → R d v F1 → RepF K G d v) → ROs R ds xs F → RepFs K G ds xs
  | [], _, _, _, h => h.1
  | d :: ds, _, _, f, ⟨x, r, F1, F2, h1, h2, h3, h4⟩ => ⟨x, r, h1, f _ _ _ (fun a h => by rw [h2]; exact List.mem_append_left _ h) h3,
      ROs.toF ds r F2 (fun d v F3 h => f d v F3 fun a ha => by rw [h2]; exact List.mem_append_right _ (h a ha)) h4⟩
theorem ROk.toF {R : D → V → List Addr → Prop} : ∀ (ds : List (List Key × D)) (xs : List (List Key × V)) (F : List Addr), (∀ d v F1, (∀ a ∈ F1, a ∈ F) → R d v F1 → RepF K G d v) → ROk R ds xs F → RepFk K G ds xs
  | [], _, _, _, h => h.1
  | (_, d) :: ds, _, _, f, ⟨x, r, F1, F2, h1, h2, h3, h4⟩ => ⟨x, r, h1, f _ _ _ (fun a h => by rw [h2]; exact List.mem_append_left _ h) h3,
      ROk.toF ds r F2 (fun d v F3 h => f d v F3 fun a ha => by rw [h2]; exact List.mem_append_right _ (h a ha)) h4⟩
theorem RO.toF (e : Same G G') : ∀ (k : Nat) (d : D) (v : V) (F : List Addr), (∀ a ∈ F, G' a = H a) → RO K G H k d v F → RepF K G' d v
  | 0, d, v, _, _, h => RepF.mono e d v h.1
  | k + 1, .lst ds, _, F, f, ⟨a, xs, F', h1, h2, h3, h4⟩ => ⟨a, xs, h1, (by rw [f a (by rw [h3]; exact List.mem_cons_self), h2]),
      ROs.toF ds xs F' (fun d v F1 s => RO.toF e k d v F1 fun b hb => f b (by rw [h3]; exact List.mem_cons_of_mem _ (s b hb))) h4⟩
  | k + 1, .dct t ds, _, F, f, ⟨a, xs, F', h1, h2, h5, h3, h4⟩ => ⟨a, xs, h1, .inl (by rw [f a (by rw [h3]; exact List.mem_cons_self), h2]), h5,
      ROk.toF ds xs F' (fun d v F1 s => RO.toF e k d v F1 fun b hb => f b (by rw [h3]; exact List.mem_cons_of_mem _ (s b hb))) h4⟩
  | k + 1, .non, v, _, _, h => h.1
  | k + 1, .bl _, v, _, _, h => h.1
  | k + 1, .int _, v, _, _, h => h.1
  | k + 1, .str _, v, _, _, h => h.1
  | k + 1, .tup ds, v, _, _, h => RepF.mono e (.tup ds) v h.1
  | k + 1, .scr ns, v, _, _, h => RepF.mono e (.scr ns) v h.1
  | k + 1, .ktp ds, v, _, _, h => RepF.mono e (.ktp ds) v h.1
/-- a list or a dict stands at each owned address -/
def isOwn : HO → Prop
  | .lst _ => True
  | .dK _ => True
  | .dT _ => True
  | _ => False
theorem isOwn_hoD (t : Bool) (xs : List (List Key × V)) : isOwn (hoD t xs) := by cases t <;> trivial
theorem ROs.own {R : D → V → List Addr → Prop} {P : Addr → Prop} (f : ∀ d v F, R d v F → ∀ a ∈ F, P a) : ∀ (ds : List D) (xs : List V) (F : List Addr), ROs R ds xs F → ∀ a ∈ F, P a
  | [], _, _, h, a, ha => by rw [h.2] at ha; cases ha
  | d :: ds, _, _, ⟨x, r, F1, F2, h1, h2, h3, h4⟩, a, ha => by
    rw [h2] at ha
    rcases List.mem_append.mp ha with z | z
    · exact f _ _ _ h3 a z
    · exact ROs.own f ds r F2 h4 a z
theorem ROk.own {R : D → V → List Addr → Prop} {P : Addr → Prop} (f : ∀ d v F, R d v F → ∀ a ∈ F, P a) : ∀ (ds : List (List Key × D)) (xs : List (List Key × V)) (F : List Addr), ROk R ds xs F → ∀ a ∈ F, P a
  | [], _, _, h, a, ha => by rw [h.2] at ha; cases ha
  | (_, d) :: ds, _, _, ⟨x, r, F1, F2, h1, h2, h3, h4⟩, a, ha => by
    rw [h2] at ha
    rcases List.mem_append.mp ha with z | z
    · exact f _ _ _ h3 a z
    · exact ROk.own f ds r F2 h4 a z
theorem RO.own : ∀ (k : Nat) (d : D) (v : V) (F : List Addr), RO K G H k d v F → ∀ a ∈ F, ∃ o, H a = some o ∧ isOwn o
  | 0, d, v, _, h, a, ha => by rw [h.2] at ha; cases ha
  | k + 1, .lst ds, _, F, ⟨b, xs, F', h1, h2, h3, h4⟩, a, ha => by
    rw [h3] at ha
    rcases List.mem_cons.mp ha with rfl | z
    · exact ⟨_, h2, trivial⟩
    · exact ROs.own (fun d v F => RO.own k d v F) ds xs F' h4 a z
  | k + 1, .dct t ds, _, F, ⟨b, xs, F', h1, h2, h5, h3, h4⟩, a, ha => by
    rw [h3] at ha
    rcases List.mem_cons.mp ha with rfl | z
    · exact ⟨_, h2, isOwn_hoD t xs⟩
    · exact ROk.own (fun d v F => RO.own k d v F) ds xs F' h4 a z
  | k + 1, .non, v, _, h, a, ha => by rw [h.2] at ha; cases ha
  | k + 1, .bl _, v, _, h, a, ha => by rw [h.2] at ha; cases ha
  | k + 1, .int _, v, _, h, a, ha => by rw [h.2] at ha; cases ha
  | k + 1, .str _, v, _, h, a, ha => by rw [h.2] at ha; cases ha
  | k + 1, .tup ds, v, _, h, a, ha => by rw [h.2] at ha; cases ha
  | k + 1, .scr ns, v, _, h, a, ha => by rw [h.2] at ha; cases ha
  | k + 1, .ktp ds, v, _, h, a, ha => by rw [h.2] at ha; cases ha
end
/-! ### the state of a body -/
/-- data with the depth to which it is owned -/
abbrev W := Nat × D
abbrev Env := List (Option W)
/-- an argument: a value of its own, or what a slot holds -/
inductive Arg where
  | v (k : Nat) (d : D)
  | r (i : Nat)
def Arg.get (ρ : Env) : Arg → Option W
  | .v k d => some (k, d)
  | .r i => (ρ[i]?).join
def RSl (K : PySem.W.Frag) (G H : Hp) : L2.St → Env → List Addr → Prop
  | _, [], F => F = []
  | [], none :: ρ, F => RSl K G H [] ρ F
  | [], some _ :: _, _ => False
  | _ :: σ, none :: ρ, F => RSl K G H σ ρ F
  | s :: σ, some w :: ρ, F => ∃ v F1 F2, s = some v ∧ F = F1 ++ F2 ∧ RO K G H w.1 w.2 v F1 ∧ RSl K G H σ ρ F2
def RWs (K : PySem.W.Frag) (G H : Hp) (σ : L2.St) (ρ : Env) : List (V × Arg) → List Addr → Prop
  | [], F => F = []
  | (x, .v k d) :: ws, F => ∃ F1 F2, F = F1 ++ F2 ∧ RO K G H k d x F1 ∧ RWs K G H σ ρ ws F2
  | (x, .r i) :: ws, F => σ[i]? = some (some x) ∧ (∃ w, ρ[i]? = some (some w)) ∧ RWs K G H σ ρ ws F
structure Si (K : PySem.W.Frag) (G0 : Hp) (σ : L2.St) (ρ : Env) (ws : List (V × Arg)) (H G : Hp) (F1 F2 : List Addr) : Prop where
  ex0 : Same G0 G
  ex : Same G H
  sl : RSl K G H σ ρ F1
  wv : RWs K G H σ ρ ws F2
  nd : (F1 ++ F2).Nodup
  fr : ∀ a ∈ F1 ++ F2, G a = none
  tu : ∀ b o, H b = some o → ¬ isOwn o → G b = some o
  ln : σ.length = ρ.length
/-- the slots σ hold ρ, the values ws stand waiting, all that G0 holds is as it was -/
def SI (K : PySem.W.Frag) (G0 : Hp) (σ : L2.St) (ρ : Env) (ws : List (V × Arg)) (H : Hp) : Prop := ∃ G F1 F2, Si K G0 σ ρ ws H G F1 F2
section
variable {K : PySem.W.Frag} {G0 G G' H H' : Hp} {σ : L2.St} {ρ : Env} {ws : List (V × Arg)} {F F1 F2 : List Addr}
theorem RSl.mono (e : Same G G') : ∀ (σ : L2.St) (ρ : Env) (F : List Addr), (∀ a ∈ F, H' a = H a) → RSl K G H σ ρ F → RSl K G' H' σ ρ F
  | [], [], _, _, h => h
  | _ :: _, [], _, _, h => h
  | [], none :: ρ, F, f, h => RSl.mono e [] ρ F f h
  | [], some _ :: _, _, _, h => h
  | _ :: σ, none :: ρ, F, f, h => RSl.mono e σ ρ F f h
  | s :: σ, some w :: ρ, F, f, ⟨v, F1, F2, h1, h2, h3, h4⟩ => ⟨v, F1, F2, h1, h2, RO.mono e _ _ _ F1 (fun a ha => f a (by rw [h2]; exact List.mem_append_left _ ha)) h3,
      RSl.mono e σ ρ F2 (fun a ha => f a (by rw [h2]; exact List.mem_append_right _ ha)) h4⟩
theorem RWs.mono (e : Same G G') : ∀ (ws : List (V × Arg)) (F : List Addr), (∀ a ∈ F, H' a = H a) → RWs K G H σ ρ ws F → RWs K G' H' σ ρ ws F
  | [], _, _, h => h
  | (x, .v k d) :: ws, F, f, ⟨F1, F2, h2, h3, h4⟩ => ⟨F1, F2, h2, RO.mono e _ _ _ F1 (fun a ha => f a (by rw [h2]; exact List.mem_append_left _ ha)) h3,
      RWs.mono e ws F2 (fun a ha => f a (by rw [h2]; exact List.mem_append_right _ ha)) h4⟩
  | (x, .r i) :: ws, F, f, ⟨h1, h2, h3⟩ => ⟨h1, h2, RWs.mono e ws F f h3⟩
theorem RSl.own : ∀ (σ : L2.St) (ρ : Env) (F : List Addr), RSl K G H σ ρ F → ∀ a ∈ F, ∃ o, H a = some o ∧ isOwn o
  | [], [], F, h, a, ha => by rw [show F = [] from h] at ha; cases ha
  | _ :: _, [], F, h, a, ha => by rw [show F = [] from h] at ha; cases ha
  | [], none :: ρ, F, h, a, ha => RSl.own [] ρ F h a ha
  | [], some _ :: _, _, h, _, _ => h.elim
  | _ :: σ, none :: ρ, F, h, a, ha => RSl.own σ ρ F h a ha
  | s :: σ, some w :: ρ, F, ⟨v, F1, F2, h1, h2, h3, h4⟩, a, ha => by
    rw [h2] at ha
    rcases List.mem_append.mp ha with z | z
    · exact RO.own _ _ _ _ h3 a z
    · exact RSl.own σ ρ F2 h4 a z
theorem RWs.own : ∀ (ws : List (V × Arg)) (F : List Addr), RWs K G H σ ρ ws F → ∀ a ∈ F, ∃ o, H a = some o ∧ isOwn o
  | [], F, h, a, ha => by rw [show F = [] from h] at ha; cases ha
  | (x, .v k d) :: ws, F, ⟨F1, F2, h2, h3, h4⟩, a, ha => by
    rw [h2] at ha
    rcases List.mem_append.mp ha with z | z
    · exact RO.own _ _ _ _ h3 a z
    · exact RWs.own ws F2 h4 a z
  | (x, .r i) :: ws, F, ⟨h1, h2, h3⟩, a, ha => RWs.own ws F h3 a ha
theorem Si.own (I : Si K G0 σ ρ ws H G F1 F2) : ∀ a ∈ F1 ++ F2, ∃ o, H a = some o ∧ isOwn o := fun a ha => by
  rcases List.mem_append.mp ha with z | z
  · exact RSl.own _ _ _ I.sl a z
  · exact RWs.own _ _ I.wv a z
end
end Pv
set_option Elab.async false
set_option linter.all false
set_option maxRecDepth 100000
/-! P2: how the state is changed -/
namespace Pv
open PySem PySem.Spec PyProof.Rows L2
section
variable {K : PySem.W.Frag} {G0 G G' H H' : Hp} {σ : L2.St} {ρ : Env} {ws : List (V × Arg)} {F F1 F2 : List Addr}
/-- slot i, and the rest -/
theorem RSl.zoom : ∀ (σ : L2.St) (ρ : Env) (F : List Addr) (i : Nat), RSl K G H σ ρ F → i < ρ.length → i < σ.length →
    ∃ F1 Fi F2, F = F1 ++ Fi ++ F2 ∧ (∀ w, ρ[i]? = some (some w) → ∃ v, σ[i]? = some (some v) ∧ RO K G H w.1 w.2 v Fi) ∧ (ρ[i]? = some none → Fi = []) ∧
      ∀ (G' H' : Hp) (sv : Option V) (w' : Option W) (Fi' : List Addr), Same G G' → (∀ a ∈ F1 ++ F2, H' a = H a) →
        (∀ w, w' = some w → ∃ v, sv = some v ∧ RO K G' H' w.1 w.2 v Fi') → (w' = none → Fi' = []) → RSl K G' H' (σ.set i sv) (ρ.set i w') (F1 ++ Fi' ++ F2)
  | [], _, _, _, _, _, h => absurd h (Nat.not_lt_zero _)
  | _ :: _, [], _, _, _, h, _ => absurd h (Nat.not_lt_zero _)
  | s :: σ, none :: ρ, F, 0, h, _, _ => by
    refine ⟨[], [], F, rfl, (fun w e => by simp at e), (fun _ => rfl), fun G' H' sv w' Fi' e f g z => ?_⟩
    have hm := RSl.mono e σ ρ F (fun a ha => f a ha) h
    cases w' with
    | none =>
      have := z rfl
      subst this
      exact hm
    | some w =>
      obtain ⟨v, hv, hr⟩ := g w rfl
      exact ⟨v, Fi', F, hv, rfl, hr, hm⟩
  | s :: σ, some w :: ρ, F, 0, ⟨v, Fa, Fb, h1, h2, h3, h4⟩, _, _ => by
    subst h2
    refine ⟨[], Fa, Fb, rfl, (fun w' e => by simp at e; subst e; exact ⟨v, by rw [h1]; rfl, h3⟩), (fun e => by simp at e), fun G' H' sv w' Fi' e f g z => ?_⟩
    have hm := RSl.mono e σ ρ Fb (fun a ha => f a ha) h4
    cases w' with
    | none =>
      have := z rfl
      subst this
      exact hm
    | some w =>
      obtain ⟨v, hv, hr⟩ := g w rfl
      exact ⟨v, Fi', Fb, hv, rfl, hr, hm⟩
  | s :: σ, none :: ρ, F, i + 1, h, hi, hj => by
    obtain ⟨Fa, Fi, Fb, e1, e2, e3, e4⟩ := RSl.zoom σ ρ F i h (Nat.lt_of_succ_lt_succ hi) (Nat.lt_of_succ_lt_succ hj)
    exact ⟨Fa, Fi, Fb, e1, e2, e3, fun G' H' sv w' Fi' e f g z => e4 G' H' sv w' Fi' e f g z⟩
  | s :: σ, some w :: ρ, F, i + 1, ⟨v, Fa, Fb, h1, h2, h3, h4⟩, hi, hj => by
    obtain ⟨Fc, Fi, Fd, e1, e2, e3, e4⟩ := RSl.zoom σ ρ Fb i h4 (Nat.lt_of_succ_lt_succ hi) (Nat.lt_of_succ_lt_succ hj)
    refine ⟨Fa ++ Fc, Fi, Fd, by rw [h2, e1]; simp [List.append_assoc], e2, e3, fun G' H' sv w' Fi' e f g z => ?_⟩
    refine ⟨v, Fa, Fc ++ Fi' ++ Fd, h1, by simp [List.append_assoc], ?_, e4 G' H' sv w' Fi' e (fun a ha => f a ?_) g z⟩
    · exact RO.mono e _ _ _ Fa (fun a ha => f a (by simp [ha])) h3
    · rcases List.mem_append.mp ha with q | q
      · simp [q]
      · simp [q]
theorem RSl.len : ∀ (σ : L2.St) (ρ : Env) (F : List Addr), RSl K G H σ ρ F → ∀ (i : Nat) (w : W), ρ[i]? = some (some w) → i < σ.length
  | [], [], _, _, i, w, e => by simp at e
  | _ :: _, [], _, _, i, w, e => by simp at e
  | [], none :: ρ, F, h, 0, w, e => by simp at e
  | [], none :: ρ, F, h, i + 1, w, e => by
    have := RSl.len [] ρ F h i w (by simpa using e)
    simp at this
  | [], some _ :: _, _, h, _, _, _ => h.elim
  | _ :: σ, none :: ρ, F, h, 0, w, e => Nat.zero_lt_succ _
  | _ :: σ, none :: ρ, F, h, i + 1, w, e => Nat.succ_lt_succ (RSl.len σ ρ F h i w (by simpa using e))
  | s :: σ, some w' :: ρ, F, ⟨v, F1, F2, h1, h2, h3, h4⟩, 0, w, e => Nat.zero_lt_succ _
  | s :: σ, some w' :: ρ, F, ⟨v, F1, F2, h1, h2, h3, h4⟩, i + 1, w, e => Nat.succ_lt_succ (RSl.len σ ρ F2 h4 i w (by simpa using e))
/-- what a slot holds -/
theorem RSl.at (h : RSl K G H σ ρ F) {i : Nat} {w : W} (e : ρ[i]? = some (some w)) : ∃ v Fi, σ[i]? = some (some v) ∧ RO K G H w.1 w.2 v Fi ∧ ∀ a ∈ Fi, a ∈ F := by
  have hi : i < ρ.length := (List.getElem?_eq_some_iff.mp e).1
  obtain ⟨Fa, Fi, Fb, e1, e2, e3, e4⟩ := RSl.zoom σ ρ F i h hi (RSl.len _ _ _ h i w e)
  obtain ⟨v, h1, h2⟩ := e2 w e
  exact ⟨v, Fi, h1, h2, fun a ha => by rw [e1]; simp [ha]⟩
theorem RWs.env {σ' : L2.St} {ρ' : Env} : ∀ (ws : List (V × Arg)) (F : List Addr), (∀ (i : Nat) (v : V) (w : W), σ[i]? = some (some v) → ρ[i]? = some (some w) → σ'[i]? = some (some v) ∧ ∃ w', ρ'[i]? = some (some w')) → RWs K G H σ ρ ws F → RWs K G H σ' ρ' ws F
  | [], _, _, h => h
  | (x, .v k d) :: ws, F, f, ⟨F1, F2, h2, h3, h4⟩ => ⟨F1, F2, h2, h3, RWs.env ws F2 f h4⟩
  | (x, .r i) :: ws, F, f, ⟨h1, ⟨w, h2⟩, h3⟩ => ⟨(f i x w h1 h2).1, (f i x w h1 h2).2, RWs.env ws F f h3⟩
/-- how a step may grow the heaps: what comes new, owned at F' -/
structure Grow (G H G' H' : Hp) (F' : List Addr) : Prop where
  gg : Same G G'
  gh : Same G' H'
  hh : Same H H'
  fr : ∀ b, G b = none → H b ≠ none → G' b = none
  nd : F'.Nodup
  nw : ∀ a ∈ F', H a = none ∧ G' a = none
  tu : ∀ b o, H b = none → H' b = some o → ¬ isOwn o → G' b = some o
theorem Grow.refl (e : Same G H) : Grow G H G H [] := ⟨Same.refl _, e, Same.refl _, fun _ h _ => h, List.nodup_nil, (fun a h => by cases h), fun b o h1 h2 => by rw [h1] at h2; cases h2⟩
/-- a new object, frozen -/
theorem Grow.newF (e : Same G H) {p : Addr} {o : HO} (hp : H p = none) : Grow G H (upd G p o) (upd H p o) [] := by
  have gp : G p = none := e.free hp
  refine ⟨fun b u h => ?_, fun b u h => ?_, fun b u h => ?_, fun b h1 h2 => ?_, List.nodup_nil, (fun a h => by cases h), fun b u h1 h2 _ => ?_⟩
  · rw [upd_ne (ne_of_none h gp)]; exact h
  · by_cases hb : b = p
    · subst hb; rw [upd_same] at h ⊢; exact h
    · rw [upd_ne hb] at h ⊢; exact e b u h
  · rw [upd_ne (ne_of_none h hp)]; exact h
  · have : b ≠ p := fun z => h2 (by rw [z]; exact hp)
    rw [upd_ne this]; exact h1
  · by_cases hb : b = p
    · subst hb; rw [upd_same] at h2 ⊢; exact h2
    · rw [upd_ne hb] at h2; rw [h1] at h2; cases h2
/-- a new object, owned -/
theorem Grow.newO (e : Same G H) {p : Addr} {o : HO} (hp : H p = none) (ho : isOwn o) : Grow G H G (upd H p o) [p] := by
  have gp : G p = none := e.free hp
  refine ⟨Same.refl _, fun b u h => ?_, fun b u h => ?_, fun b h1 h2 => h1, by simp, fun a h => ?_, fun b u h1 h2 h3 => ?_⟩
  · rw [upd_ne (ne_of_none h gp)]; exact e b u h
  · rw [upd_ne (ne_of_none h hp)]; exact h
  · simp at h; subst h; exact ⟨hp, gp⟩
  · by_cases hb : b = p
    · subst hb; rw [upd_same] at h2; cases h2; exact absurd ho h3
    · rw [upd_ne hb] at h2; rw [h1] at h2; cases h2
theorem Grow.trans {G2 H2 : Hp} {Fa Fb : List Addr} (a : Grow G H G' H' Fa) (b : Grow G' H' G2 H2 Fb) (ha : ∀ x ∈ Fa, H' x ≠ none) : Grow G H G2 H2 (Fa ++ Fb) := by
  refine ⟨a.gg.trans b.gg, b.gh, a.hh.trans b.hh, fun c h1 h2 => ?_, ?_, fun x hx => ?_, fun c u h1 h2 h3 => ?_⟩
  · refine b.fr c (a.fr c h1 h2) ?_
    cases q : H c with
    | none => exact absurd q h2
    | some o => rw [a.hh c o q]; simp
  · refine List.nodup_append.mpr ⟨a.nd, b.nd, fun x hx y hy e => ?_⟩
    subst e
    exact ha x hx (b.nw x hy).1
  · rcases List.mem_append.mp hx with z | z
    · exact ⟨(a.nw x z).1, b.fr x (a.nw x z).2 (ha x z)⟩
    · exact ⟨a.hh.free (b.nw x z).1, (b.nw x z).2⟩
  · cases q : H' c with
    | none => exact b.tu c u q h2 h3
    | some o =>
      have e := b.hh c o q
      rw [h2] at e
      cases e
      exact b.gg c _ (a.tu c _ h1 q h3)
/-- drop the first waiting value -/
theorem Si.drop {x : V} {a : Arg} (I : Si K G0 σ ρ ((x, a) :: ws) H G F1 F2) : ∃ F2', (∀ b ∈ F2', b ∈ F2) ∧ Si K G0 σ ρ ws H G F1 F2' := by
  cases a with
  | v k d =>
    obtain ⟨Fa, Fb, h2, h3, h4⟩ := I.wv
    subst h2
    refine ⟨Fb, fun b hb => List.mem_append_right _ hb, I.ex0, I.ex, I.sl, h4, ?_, fun b hb => I.fr b ?_, I.tu, I.ln⟩
    · have := I.nd
      simp only [List.nodup_append, List.mem_append] at this ⊢
      exact ⟨this.1, this.2.1.2.1, fun x hx y hy => this.2.2 x hx y (.inr hy)⟩
    · rcases List.mem_append.mp hb with z | z
      · exact List.mem_append_left _ z
      · exact List.mem_append_right _ (List.mem_append_right _ z)
  | r i =>
    obtain ⟨h1, h2, h3⟩ := I.wv
    exact ⟨F2, fun b hb => hb, I.ex0, I.ex, I.sl, h3, I.nd, I.fr, I.tu, I.ln⟩
theorem SI.drop {x : V} {a : Arg} (I : SI K G0 σ ρ ((x, a) :: ws) H) : SI K G0 σ ρ ws H := by
  obtain ⟨G, F1, F2, I⟩ := I
  obtain ⟨F2', _, I'⟩ := I.drop
  exact ⟨G, F1, F2', I'⟩
theorem Grow.keep (g : Grow G H G' H' F) {a : Addr} {o : HO} (h : H a = some o) : H' a = H a := by rw [g.hh a o h, h]
/-- a step that grows the heaps -/
theorem Si.grow {F' : List Addr} (I : Si K G0 σ ρ ws H G F1 F2) (g : Grow G H G' H' F') : Si K G0 σ ρ ws H' G' F1 F2 := by
  have own := I.own
  have kp : ∀ a ∈ F1 ++ F2, H' a = H a := fun a ha => let ⟨o, h, _⟩ := own a ha; g.keep h
  refine ⟨I.ex0.trans g.gg, g.gh, RSl.mono g.gg _ _ _ (fun a ha => kp a (List.mem_append_left _ ha)) I.sl, RWs.mono g.gg _ _ (fun a ha => kp a (List.mem_append_right _ ha)) I.wv, I.nd, fun a ha => ?_, fun b o h1 h2 => ?_, I.ln⟩
  · obtain ⟨o, h, _⟩ := own a ha
    exact g.fr a (I.fr a ha) (by rw [h]; simp)
  · cases q : H b with
    | none => exact g.tu b o q h1 h2
    | some u =>
      have e := g.hh b u q
      rw [h1] at e
      cases e
      exact g.gg b _ (I.tu b _ q h2)
/-- a new value waits -/
theorem Si.push {F' : List Addr} {k : Nat} {d : D} {v : V} (I : Si K G0 σ ρ ws H G F1 F2) (g : Grow G H G' H' F') (r : RO K G' H' k d v F') : Si K G0 σ ρ ((v, .v k d) :: ws) H' G' F1 (F' ++ F2) := by
  have J := I.grow g
  have own := I.own
  refine ⟨J.ex0, J.ex, J.sl, ⟨F', F2, rfl, r, J.wv⟩, ?_, fun a ha => ?_, J.tu, J.ln⟩
  · have n1 := J.nd
    simp only [List.nodup_append, List.mem_append] at n1 ⊢
    refine ⟨n1.1, ⟨g.nd, n1.2.1, fun x hx y hy e => ?_⟩, fun x hx y hy e => ?_⟩
    · subst e
      obtain ⟨o, h, _⟩ := own x (List.mem_append_right _ hy)
      rw [(g.nw x hx).1] at h; cases h
    · subst e
      rcases hy with hy | hy
      · obtain ⟨o, h, _⟩ := own x (List.mem_append_left _ hx)
        rw [(g.nw x hy).1] at h; cases h
      · exact n1.2.2 x hx x hy rfl
  · rcases List.mem_append.mp ha with z | z
    · exact J.fr a (List.mem_append_left _ z)
    · rcases List.mem_append.mp z with z | z
      · exact (g.nw a z).2
      · exact J.fr a (List.mem_append_right _ z)
theorem Si.SI (I : Si K G0 σ ρ ws H G F1 F2) : SI K G0 σ ρ ws H := ⟨G, F1, F2, I⟩
/-- a frozen value waits -/
theorem Si.pushF {d : D} {v : V} (I : Si K G0 σ ρ ws H G F1 F2) (r : RepF K G d v) : Si K G0 σ ρ ((v, .v 0 d) :: ws) H G F1 F2 :=
  I.push (F' := []) (Grow.refl I.ex) ⟨r, rfl⟩
/-- what a slot holds waits -/
theorem Si.pushR {i : Nat} {w : W} {v : V} (I : Si K G0 σ ρ ws H G F1 F2) (h : ρ[i]? = some (some w)) (e : σ[i]? = some (some v)) : Si K G0 σ ρ ((v, .r i) :: ws) H G F1 F2 :=
  ⟨I.ex0, I.ex, I.sl, ⟨e, ⟨w, h⟩, I.wv⟩, I.nd, I.fr, I.tu, I.ln⟩
/-- what waits first -/
theorem Si.top {x : V} {a : Arg} {w : W} (I : Si K G0 σ ρ ((x, a) :: ws) H G F1 F2) (h : a.get ρ = some w) : ∃ Fx, RO K G H w.1 w.2 x Fx := by
  cases a with
  | v k d =>
    obtain ⟨Fa, Fb, h2, h3, h4⟩ := I.wv
    cases h
    exact ⟨Fa, h3⟩
  | r i =>
    obtain ⟨h1, ⟨w', h2⟩, h3⟩ := I.wv
    have h' : ρ[i]? = some (some w) := by
      have : (ρ[i]?).join = some w := h
      rw [h2] at this ⊢
      simpa using this
    obtain ⟨v, Fi, e1, e2, _⟩ := I.sl.at h'
    rw [h1] at e1
    cases e1
    exact ⟨Fi, e2⟩
/-- F is laid down in the frozen heap -/
def lay (G H : Hp) (F : List Addr) : Hp := fun b => if b ∈ F then H b else G b
theorem lay_in {F : List Addr} {b : Addr} (h : b ∈ F) : lay G H F b = H b := if_pos h
theorem lay_out {F : List Addr} {b : Addr} (h : b ∉ F) : lay G H F b = G b := if_neg h
theorem same_lay {F : List Addr} (h : ∀ a ∈ F, G a = none) : Same G (lay G H F) := fun b o e => by
  by_cases hb : b ∈ F
  · rw [h b hb] at e; cases e
  · rw [lay_out hb]; exact e
theorem lay_same {F : List Addr} (e : Same G H) : Same (lay G H F) H := fun b o h => by
  by_cases hb : b ∈ F
  · rw [lay_in hb] at h; exact h
  · rw [lay_out hb] at h; exact e b o h
/-- the first waiting value is frozen and taken off -/
theorem Si.freeze {x : V} {k : Nat} {d : D} (I : Si K G0 σ ρ ((x, .v k d) :: ws) H G F1 F2) : ∃ G' F2', Si K G0 σ ρ ws H G' F1 F2' ∧ Same G G' ∧ RepF K G' d x := by
  obtain ⟨Fa, Fb, h2, h3, h4⟩ := I.wv
  subst h2
  have nd := I.nd
  simp only [List.nodup_append, List.mem_append] at nd
  have ga : ∀ a ∈ Fa, G a = none := fun a ha => I.fr a (by simp [ha])
  have e := same_lay (H := H) ga
  refine ⟨lay G H Fa, Fb, ⟨I.ex0.trans e, lay_same I.ex, RSl.mono e _ _ _ (fun _ _ => rfl) I.sl, RWs.mono e _ _ (fun _ _ => rfl) h4, ?_, fun b hb => ?_, fun b o h1 h2 => e b o (I.tu b o h1 h2), I.ln⟩, e,
    RO.toF e _ _ _ Fa (fun a ha => lay_in ha) h3⟩
  · simp only [List.nodup_append]
    exact ⟨nd.1, nd.2.1.2.1, fun x hx y hy => nd.2.2 x hx y (.inr hy)⟩
  · have hn : b ∉ Fa := fun z => by
      rcases List.mem_append.mp hb with q | q
      · exact nd.2.2 b q b (.inl z) rfl
      · exact nd.2.1.2.2 b z b q rfl
    rw [lay_out hn]
    refine I.fr b ?_
    rcases List.mem_append.mp hb with q | q
    · simp [q]
    · simp [q]
theorem Si.next {x y : V} {a b : Arg} {w : W} (I : Si K G0 σ ρ ((x, a) :: (y, b) :: ws) H G F1 F2) (h : b.get ρ = some w) : ∃ Fx, RO K G H w.1 w.2 y Fx := by
  obtain ⟨F2', _, I'⟩ := I.drop
  exact I'.top h
end
end Pv
set_option Elab.async false
set_option linter.all false
set_option maxRecDepth 100000
/-! P3: expressions -/
namespace Pv
open PySem PySem.Spec PyProof.Rows L2
/-! ### judgements -/
theorem PE.imp {X : Cx} {e : Expr} {t t' : TE} (h : PE X e t) (i : ∀ σ H Q, t' σ H Q → t σ H Q) : PE X e t' := ⟨fun pins s σ H Q I q => h.run pins s σ H Q I (i σ H Q q)⟩
theorem PT.imp {X : Cx} {e : Expr} {t t' : TT} (h : PT X e t) (i : ∀ σ H Q, t' σ H Q → t σ H Q) : PT X e t' := ⟨fun pins s σ H Q I q => h.run pins s σ H Q I (i σ H Q q)⟩
theorem PW.imp {X : Cx} {e : Expr} {t t' : TT} (h : PW X e t) (i : ∀ σ H Q, t' σ H Q → t σ H Q) : PW X e t' := ⟨fun w pins s σ H Q I q => h.run w pins s σ H Q I (i σ H Q q)⟩
theorem PA.imp {X : Cx} {es : List Expr} {t t' : TA} (h : PA X es t) (i : ∀ σ H Q, t' σ H Q → t σ H Q) : PA X es t' := ⟨fun pos pins s σ H Q I q => h.run pos pins s σ H Q I (i σ H Q q)⟩
theorem PO.imp {X : Cx} {e : Option Expr} {t t' : TO} (h : PO X e t) (i : ∀ σ H Q, t' σ H Q → t σ H Q) : PO X e t' := ⟨fun pins s σ H Q I q => h.run pins s σ H Q I (i σ H Q q)⟩
abbrev Fe := Env → Option Arg
abbrev Fb := Env → Option Bool
abbrev Fa := Env → Option (List Arg)
abbrev Fo := Env → Option (Option Int)
def tE (K : PySem.W.Frag) (f : Fe) : TE := fun σ H Q => ∃ G0 ρ ws a, SI K G0 σ ρ ws H ∧ f ρ = some a ∧ ∀ v H', SI K G0 σ ρ ((v, a) :: ws) H' → Q v H'
def tT (K : PySem.W.Frag) (f : Fb) : TT := fun σ H Q => ∃ G0 ρ ws b, SI K G0 σ ρ ws H ∧ f ρ = some b ∧ ∀ H', SI K G0 σ ρ ws H' → Q b H'
def tA (K : PySem.W.Frag) (f : Fa) : TA := fun σ H Q => ∃ G0 ρ ws as, SI K G0 σ ρ ws H ∧ f ρ = some as ∧ ∀ vs H', vs.length = as.length → SI K G0 σ ρ ((vs.zip as).reverse ++ ws) H' → Q vs H'
def tO (K : PySem.W.Frag) (f : Fo) : TO := fun σ H Q => ∃ G0 ρ ws o, SI K G0 σ ρ ws H ∧ f ρ = some o ∧ ∀ H', SI K G0 σ ρ ws H' → Q o H'
def OkE (X : Cx) (e : Expr) (f : Fe) : Prop := PE X e (tE X.K f)
def OkT (X : Cx) (e : Expr) (f : Fb) : Prop := PT X e (tT X.K f)
def OkA (X : Cx) (es : List Expr) (f : Fa) : Prop := PA X es (tA X.K f)
def OkO (X : Cx) (e : Option Expr) (f : Fo) : Prop := PO X e (tO X.K f)
/-- the data of an expression -/
def val (f : Fe) (ρ : Env) : Option W := (f ρ).bind (Arg.get ρ)
/-! ### results -/
def Res (K : PySem.W.Frag) (G H : Hp) (w : W) (t : VK → Prop) : Prop := ∀ Q : VK, (∀ v H' G' F', Grow G H G' H' F' → RO K G' H' w.1 w.2 v F' → Q v H') → t Q
section
variable {K : PySem.W.Frag} {G0 G G' H H' : Hp} {σ : L2.St} {ρ : Env} {ws : List (V × Arg)} {F F1 F2 : List Addr} {t : VK → Prop}
theorem Res.pure {d : D} {v : V} (e : Same G H) (r : RepF K G d v) (h : ∀ Q : VK, Q v H → t Q) : Res K G H (0, d) t := fun Q q => h Q (q v H G [] (Grow.refl e) ⟨r, rfl⟩)
theorem Res.tup {ds : List D} {xs : List V} (e : Same G H) (r : RepFs K G ds xs) (h : ∀ Q : VK, (∀ p, H p = none → Q (.ref p) (upd H p (.tup xs))) → t Q) : Res K G H (0, .tup ds) t := fun Q q => h Q fun p hp => by
  have g := Grow.newF (o := .tup xs) e hp
  exact q _ _ _ [] g ⟨⟨p, xs, rfl, upd_same, RepFs.mono g.gg _ _ r⟩, rfl⟩
theorem ROs.of_F : ∀ {ds : List D} {xs : List V}, RepFs K G ds xs → ROs (RO K G H 0) ds xs []
  | [], _, h => ⟨h, rfl⟩
  | d :: ds, _, ⟨x, r, h1, h2, h3⟩ => ⟨x, r, [], [], h1, rfl, ⟨h2, rfl⟩, ROs.of_F h3⟩
theorem ROs.to_F : ∀ {ds : List D} {xs : List V} {F : List Addr}, ROs (RO K G H 0) ds xs F → RepFs K G ds xs ∧ F = []
  | [], _, _, h => h
  | d :: ds, _, _, ⟨x, r, F1, F2, h1, h2, h3, h4⟩ => by
    obtain ⟨q1, q2⟩ := ROs.to_F h4
    exact ⟨⟨x, r, h1, h3.1, q1⟩, by rw [h2, h3.2, q2]; rfl⟩
theorem Res.lst {ds : List D} {xs : List V} (e : Same G H) (r : RepFs K G ds xs) (h : ∀ Q : VK, (∀ p, H p = none → Q (.ref p) (upd H p (.lst xs))) → t Q) : Res K G H (1, .lst ds) t := fun Q q => h Q fun p hp => by
  have g := Grow.newO (o := .lst xs) e hp trivial
  exact q _ _ _ [p] g ⟨p, xs, [], rfl, upd_same, rfl, ROs.of_F r⟩
theorem Si.length_tup : ∀ {ds : List D} {xs : List V}, RepFs K G ds xs → xs.length = ds.length
  | [], _, h => by rw [show _ = [] from h]; rfl
  | d :: ds, _, ⟨x, r, h1, h2, h3⟩ => by rw [h1, List.length_cons, List.length_cons, Si.length_tup h3]
theorem RepFs.len {ds : List D} {xs : List V} (h : RepFs K G ds xs) : xs.length = ds.length := Si.length_tup h
theorem RepFs.get : ∀ {ds : List D} {xs : List V} {i : Nat} {d : D}, RepFs K G ds xs → ds[i]? = some d → ∃ x, xs[i]? = some x ∧ RepF K G d x
  | [], _, _, _, _, e => by simp at e
  | d :: ds, _, 0, d', ⟨x, r, h1, h2, h3⟩, e => by
    simp at e
    subst e
    exact ⟨x, by rw [h1]; rfl, h2⟩
  | d :: ds, _, i + 1, d', ⟨x, r, h1, h2, h3⟩, e => by
    obtain ⟨y, q1, q2⟩ := RepFs.get (i := i) h3 (by simpa using e)
    exact ⟨y, by rw [h1]; simpa using q1, q2⟩
theorem RepFs.append : ∀ {ds es : List D} {xs ys : List V}, RepFs K G ds xs → RepFs K G es ys → RepFs K G (ds ++ es) (xs ++ ys)
  | [], _, _, _, h, q => by rw [show _ = [] from h]; exact q
  | d :: ds, _, _, _, ⟨x, r, h1, h2, h3⟩, q => ⟨x, r ++ _, by rw [h1]; rfl, h2, RepFs.append h3 q⟩
theorem RepFs.take : ∀ {ds : List D} {xs : List V} (n : Nat), RepFs K G ds xs → RepFs K G (ds.take n) (xs.take n)
  | [], _, n, h => by rw [show _ = [] from h]; simp; exact (rfl : ([] : List V) = [])
  | d :: ds, _, 0, _ => by simp; exact (rfl : ([] : List V) = [])
  | d :: ds, _, n + 1, ⟨x, r, h1, h2, h3⟩ => ⟨x, r.take n, by rw [h1]; rfl, h2, RepFs.take n h3⟩
theorem RepFs.drop : ∀ {ds : List D} {xs : List V} (n : Nat), RepFs K G ds xs → RepFs K G (ds.drop n) (xs.drop n)
  | [], _, n, h => by rw [show _ = [] from h]; simp; exact (rfl : ([] : List V) = [])
  | d :: ds, _, 0, h => h
  | d :: ds, _, n + 1, ⟨x, r, h1, h2, h3⟩ => by rw [h1]; exact RepFs.drop n h3
/-! ### what stands for data -/
def isBox : D → Bool
  | .lst _ => true
  | .dct _ _ => true
  | _ => false
theorem RO.plain {k : Nat} {d : D} {v : V} (h : isBox d = false) (r : RO K G H k d v F) : RepF K G d v ∧ F = [] := by
  cases k with
  | zero => exact r
  | succ k => cases d <;> first | exact r | cases h
theorem RO.int {k : Nat} {i : Int} {v : V} (r : RO K G H k (.int i) v F) : v = .int i := (r.plain rfl).1
theorem RO.str {k : Nat} {i : Str} {v : V} (r : RO K G H k (.str i) v F) : v = .str i := (r.plain rfl).1
theorem RO.bl {k : Nat} {i : Bool} {v : V} (r : RO K G H k (.bl i) v F) : v = .bl i := (r.plain rfl).1
theorem RO.non {k : Nat} {v : V} (r : RO K G H k .non v F) : v = .non := (r.plain rfl).1
theorem RO.tupE {k : Nat} {ds : List D} {v : V} (r : RO K G H k (.tup ds) v F) : ∃ a xs, v = .ref a ∧ G a = some (.tup xs) ∧ RepFs K G ds xs := (r.plain rfl).1
theorem RO.tup {k : Nat} {ds : List D} {v : V} (r : RO K G H k (.tup ds) v F) : ∃ a xs, v = .ref a ∧ SqT K G a xs ∧ RepFs K G ds xs := let ⟨a, xs, h1, h2, h3⟩ := r.tupE; ⟨a, xs, h1, SqT.of h2, h3⟩
theorem RO.ktp {k : Nat} {ds : List D} {v : V} (r : RO K G H k (.ktp ds) v F) : ∃ a xs, v = .ref a ∧ KTup K G a xs ∧ RepFs K G ds xs := (r.plain rfl).1
theorem RO.scr {k : Nat} {ns : List Int} {v : V} (r : RO K G H k (.scr ns) v F) : ∃ a, v = .ref a ∧ SqL K G a (ns.map V.int) := (r.plain rfl).1
/-- a list whose items are frozen -/
theorem RO.lst1 {k : Nat} {ds : List D} {v : V} (e : Same G H) (hk : k ≤ 1) (r : RO K G H k (.lst ds) v F) : ∃ a xs, v = .ref a ∧ H a = some (.lst xs) ∧ RepFs K G ds xs := by
  match k, hk, r with
  | 0, _, r => obtain ⟨⟨a, xs, h1, h2, h3⟩, _⟩ := r; exact ⟨a, xs, h1, e _ _ h2, h3⟩
  | 1, _, r => obtain ⟨a, xs, F', h1, h2, h3, h4⟩ := r; exact ⟨a, xs, h1, h2, (ROs.to_F h4).1⟩
theorem ROs.len {R : D → V → List Addr → Prop} : ∀ {ds : List D} {xs : List V} {F : List Addr}, ROs R ds xs F → xs.length = ds.length
  | [], _, _, h => by rw [h.1]; rfl
  | d :: ds, _, _, ⟨x, r, F1, F2, h1, h2, h3, h4⟩ => by rw [h1, List.length_cons, List.length_cons, ROs.len h4]
theorem RO.lstN {k : Nat} {ds : List D} {v : V} (e : Same G H) (r : RO K G H k (.lst ds) v F) : ∃ a xs, v = .ref a ∧ H a = some (.lst xs) ∧ xs.length = ds.length := by
  match k, r with
  | 0, r => obtain ⟨⟨a, xs, h1, h2, h3⟩, _⟩ := r; exact ⟨a, xs, h1, e _ _ h2, h3.len⟩
  | k + 1, r => obtain ⟨a, xs, F', h1, h2, h3, h4⟩ := r; exact ⟨a, xs, h1, h2, h4.len⟩
end
/-! ### names, constants -/
section
variable {X : Cx} {e a b : Expr} {pos : Pos} {A B : Fe}
def pC (d : D) : Fe := fun _ => some (.v 0 d)
def pVar (i : Nat) : Fe := fun ρ => ((ρ[i]?).join).bind fun w => if w.1 = 0 then some (.v 0 w.2) else if isBox w.2 then none else some (.v 0 w.2)
def pBv (i : Nat) : Fe := fun ρ => ((ρ[i]?).join).map fun _ => .r i
theorem join_some {α : Type} {x : Option (Option α)} {a : α} (h : x.join = some a) : x = some (some a) := by
  cases x with
  | none => cases h
  | some y => simpa using h
theorem e_const {d : D} {v : V} (h : PE X e (tC v)) (r : ∀ G, RepF X.K G d v) : OkE X e (pC d) := PE.imp h fun σ H Q ⟨G0, ρ, ws, a, ⟨G, F1, F2, I⟩, hf, q⟩ => by
  cases hf
  exact q v H (I.pushF (r G)).SI
theorem e_int {i : Int} {j pos} : OkE X (.Constant (.int i) j pos) (pC (.int i)) := e_const pe_int fun _ => rfl
theorem e_bl {b : Bool} {j pos} : OkE X (.Constant (.bool b) j pos) (pC (.bl b)) := e_const pe_bl fun _ => rfl
theorem e_non {j pos} : OkE X (.Constant .none j pos) (pC .non) := e_const pe_non fun _ => rfl
theorem e_str {x : Str} {j pos} : OkE X (.Constant (.str x) j pos) (pC (.str x)) := e_const pe_str fun _ => rfl
theorem e_pv {i : Nat} (h : PE X e (tVar i)) : OkE X e (pVar i) := PE.imp h fun σ H Q ⟨G0, ρ, ws, a, ⟨G, F1, F2, I⟩, hf, q⟩ => by
  obtain ⟨w, hw, hf⟩ := Option.bind_eq_some_iff.mp hf
  obtain ⟨v, Fi, h1, h2, _⟩ := I.sl.at (join_some hw)
  refine ⟨v, h1, ?_⟩
  have key : RepF X.K G w.2 v ∧ a = .v 0 w.2 := by
    split at hf
    · rename_i hk
      rw [hk] at h2
      exact ⟨h2.1, (Option.some.inj hf).symm⟩
    · split at hf
      · cases hf
      · rename_i hb
        exact ⟨(RO.plain (by simpa using hb) h2).1, (Option.some.inj hf).symm⟩
  rw [key.2] at q
  exact q v H (I.pushF key.1).SI
theorem e_pb {i : Nat} (h : PE X e (tVar i)) : OkE X e (pBv i) := PE.imp h fun σ H Q ⟨G0, ρ, ws, a, ⟨G, F1, F2, I⟩, hf, q⟩ => by
  obtain ⟨w, hw, hf⟩ := Option.map_eq_some_iff.mp hf
  obtain ⟨v, Fi, h1, h2, _⟩ := I.sl.at (join_some hw)
  subst hf
  exact ⟨v, h1, q v H (I.pushR (join_some hw) h1).SI⟩
/-- the i-th name of the def, its value; what it holds -/
theorem e_var (i : Nat) {x : Str} {pos : Pos} (hN : X.N[i]? = some x := by rfl) (hv : Vis X.env.scope x := by first | exact Or.inl rfl | exact Or.inr (Or.inl rfl) | exact Or.inr (Or.inr rfl)) (hd : (x == ("__debug__" : Str)) = false := by decide)
    (hcd : (x == ("__classdict__" : Str)) = false := by decide) : OkE X (.Name x pos) (pVar i) := e_pv (pe_var hN hv hd hcd)
theorem e_bv (i : Nat) {x : Str} {pos : Pos} (hN : X.N[i]? = some x := by rfl) (hv : Vis X.env.scope x := by first | exact Or.inl rfl | exact Or.inr (Or.inl rfl) | exact Or.inr (Or.inr rfl)) (hd : (x == ("__debug__" : Str)) = false := by decide)
    (hcd : (x == ("__classdict__" : Str)) = false := by decide) : OkE X (.Name x pos) (pBv i) := e_pb (pe_var hN hv hd hcd)
/-! ### operations on values -/
def pOp1 (g : W → Option W) (A : Fe) : Fe := fun ρ => (val A ρ).bind fun u => (g u).map fun w => .v w.1 w.2
def pOp2 (g : W → W → Option W) (A B : Fe) : Fe := fun ρ => (val A ρ).bind fun u => (val B ρ).bind fun v => (g u v).map fun w => .v w.1 w.2
def Op1 (K : PySem.W.Frag) (r : V → Hp → VK → Prop) (g : W → Option W) : Prop := ∀ G H u x Fu w, Same G H → RO K G H u.1 u.2 x Fu → g u = some w → Res K G H w (r x H)
def Op2 (K : PySem.W.Frag) (r : R2) (g : W → W → Option W) : Prop := ∀ G H u v x y Fu Fv w, Same G H → RO K G H u.1 u.2 x Fu → RO K G H v.1 v.2 y Fv → g u v = some w → Res K G H w (r x y H)
theorem val_some {f : Fe} {ρ : Env} {w : W} (h : val f ρ = some w) : ∃ a, f ρ = some a ∧ a.get ρ = some w := Option.bind_eq_some_iff.mp h
theorem op1_imp {r : V → Hp → VK → Prop} {g : W → Option W} {K : PySem.W.Frag} (hg : Op1 K r g) (σ : L2.St) (H : Hp) (Q : VK) (h : tE K (pOp1 g A) σ H Q) : tE K A σ H fun x H1 => r x H1 Q := by
  obtain ⟨G0, ρ, ws, a, I, hf, q⟩ := h
  obtain ⟨u, hu, hf⟩ := Option.bind_eq_some_iff.mp hf
  obtain ⟨w, hw, rfl⟩ := Option.map_eq_some_iff.mp hf
  obtain ⟨a1, ha, hg1⟩ := val_some hu
  refine ⟨G0, ρ, ws, a1, I, ha, fun x H1 I1 => ?_⟩
  obtain ⟨G, F1, F2, J⟩ := I1
  obtain ⟨Fx, rx⟩ := J.top hg1
  refine hg G H1 u x Fx w J.ex rx hw Q fun v H' G' F' gr rv => ?_
  obtain ⟨F2', _, J'⟩ := J.drop
  exact q v H' (J'.push gr rv).SI
theorem op2_imp {r : R2} {g : W → W → Option W} {K : PySem.W.Frag} (hg : Op2 K r g) (σ : L2.St) (H : Hp) (Q : VK) (h : tE K (pOp2 g A B) σ H Q) : tOp r (tE K A) (tE K B) σ H Q := by
  obtain ⟨G0, ρ, ws, a, I, hf, q⟩ := h
  obtain ⟨u, hu, hf⟩ := Option.bind_eq_some_iff.mp hf
  obtain ⟨v, hv, hf⟩ := Option.bind_eq_some_iff.mp hf
  obtain ⟨w, hw, rfl⟩ := Option.map_eq_some_iff.mp hf
  obtain ⟨a1, ha, hg1⟩ := val_some hu
  obtain ⟨a2, hb, hg2⟩ := val_some hv
  refine ⟨G0, ρ, ws, a1, I, ha, fun x H1 I1 => ⟨G0, ρ, (x, a1) :: ws, a2, I1, hb, fun y H2 I2 => ?_⟩⟩
  obtain ⟨G, F1, F2, J⟩ := I2
  obtain ⟨Fy, ry⟩ := J.top hg2
  obtain ⟨Fx, rx⟩ := J.next hg1
  refine hg G H2 u v x y Fx Fy w J.ex rx ry hw Q fun z H' G' F' gr rv => ?_
  obtain ⟨F2', _, J'⟩ := J.drop
  obtain ⟨F3', _, J''⟩ := J'.drop
  exact q z H' (J''.push gr rv).SI
theorem e_bin {op : Operator} {r : R2} {g : W → W → Option W} (ho : OpR X (binaryOp op) r) (hg : Op2 X.K r g) (ha : OkE X a A) (hb : OkE X b B) : OkE X (.BinOp a op b pos) (pOp2 g A B) := PE.imp (pe_op ho ha hb) (op2_imp hg)
theorem e_cmp {op : CmpOp} {r : R2} {g : W → W → Option W} (ho : OpR X (compareOp op) r) (hg : Op2 X.K r g) (ha : OkE X a A) (hb : OkE X b B) (hm : behindInMarks op b = false := by rfl) : OkE X (.Compare a [op] [b] pos) (pOp2 g A B) :=
  PE.imp (pe_cmpR ho ha hb hm) (op2_imp hg)
theorem e_un {op : UnaryOp} {r : V → Hp → VK → Prop} {g : W → Option W} (ho : UnR X (unaryOp op) r) (hg : Op1 X.K r g) (ha : OkE X a A) : OkE X (.UnaryOp op a pos) (pOp1 g A) := PE.imp (pe_un ho ha) (op1_imp hg)
theorem e_ix {r : R2} {g : W → W → Option W} (ho : IxR X r) (hg : Op2 X.K r g) (ha : OkE X a A) (hb : OkE X b B) (hs : PlainIx b := by exact fun _ _ => rfl) : OkE X (.Subscript a b pos) (pOp2 g A B) := PE.imp (pe_ix ho ha hb hs) (op2_imp hg)
theorem Op2.or {K : PySem.W.Frag} {r r' : R2} {g g' : W → W → Option W} (h : Op2 K r g) (h' : Op2 K r' g') : Op2 K (fun x y H Q => r x y H Q ∨ r' x y H Q) (fun u v => (g u v).orElse fun _ => g' u v) := fun G H u v x y Fu Fv w e ru rv hw Q q => by
  replace hw : ((g u v).orElse fun _ => g' u v) = some w := hw
  cases hg : g u v with
  | some z =>
    rw [hg] at hw
    exact .inl (h G H u v x y Fu Fv w e ru rv (by rw [hg]; exact hw) Q q)
  | none =>
    rw [hg] at hw
    exact .inr (h' G H u v x y Fu Fv w e ru rv hw Q q)
end
end Pv
set_option Elab.async false
set_option linter.all false
set_option maxRecDepth 100000
/-! P4: operations by data -/
namespace Pv
open PySem PySem.Spec PyProof.Rows L2
def big : Nat := 1000000
theorem big_line {n : Nat} (h : n ≤ big) : n ≤ sizeLine := Nat.le_trans h (by decide)
theorem big_lt {n : Nat} (h : n < big) : n < sizeLine := Nat.lt_of_lt_of_le h (by decide)
section
variable {K : PySem.W.Frag} {G0 G G' H H' : Hp}
/-! ### + - * // % ** -/
def gAdd : W → W → Option W
  | (_, .int i), (_, .int j) => some (0, .int (i + j))
  | (_, .str a), (_, .str b) => if a.length + b.length ≤ big then some (0, .str (a ++ b)) else none
  | (k, .lst xs), (l, .lst ys) => if k ≤ 1 ∧ l ≤ 1 ∧ xs.length + ys.length ≤ big then some (1, .lst (xs ++ ys)) else none
  | (_, .tup xs), (_, .tup ys) => if xs.length + ys.length ≤ big then some (0, .tup (xs ++ ys)) else none
  | _, _ => none
def rAdd (K : PySem.W.Frag) : R2 := fun x y H Q => rI0 (fun i j => .int (i + j)) x y H Q ∨ (∃ i j, x = .str i ∧ y = .str j ∧ i.length + j.length ≤ sizeLine ∧ Q (.str (i ++ j)) H) ∨ rCat x y H Q ∨ rCatA K x y H Q
theorem op_addA {X : Cx} : OpR X (binaryOp .Add) (rAdd X.K) := OpR.or op_add (OpR.or op_add_str (OpR.or op_cat op_catA))
theorem RepFs.nil_iff {ds : List D} {xs : List V} (h : RepFs K G ds xs) : xs = [] ↔ ds = [] := by
  have := h.len
  constructor
  · intro e; subst e; exact List.eq_nil_of_length_eq_zero this.symm
  · intro e; subst e; exact List.eq_nil_of_length_eq_zero this
theorem g_add : Op2 K (rAdd K) gAdd := by
  intro G H u v x y Fu Fv w e ru rv hw
  unfold gAdd at hw
  split at hw
  · cases hw
    obtain rfl := ru.int
    obtain rfl := rv.int
    exact Res.pure e rfl fun Q q => .inl ⟨_, _, rfl, rfl, q⟩
  · split at hw
    · rename_i hz
      cases hw
      obtain rfl := ru.str
      obtain rfl := rv.str
      exact Res.pure e rfl fun Q q => .inr (.inl ⟨_, _, rfl, rfl, big_line hz, q⟩)
    · cases hw
  · split at hw
    · rename_i hz
      cases hw
      obtain ⟨a, xs, rfl, h1, h2⟩ := ru.lst1 e hz.1
      obtain ⟨b, ys, rfl, h3, h4⟩ := rv.lst1 e hz.2.1
      exact Res.lst e (h2.append h4) fun Q q => .inr (.inr (.inl ⟨a, b, xs, ys, rfl, rfl, h1, h3, by rw [h2.len, h4.len]; exact big_line hz.2.2, q⟩))
    · cases hw
  · split at hw
    · rename_i hz
      cases hw
      obtain ⟨a, xs, rfl, h1, h2⟩ := ru.tupE
      obtain ⟨b, ys, rfl, h3, h4⟩ := rv.tupE
      intro Q q
      have hl : xs.length + ys.length ≤ sizeLine := by rw [h2.len, h4.len]; exact big_line hz
      refine .inr (.inr (.inr ⟨a, b, xs, ys, rfl, rfl, SqT.of (e _ _ h1), SqT.of (e _ _ h3), hl, fun z => ?_, fun _ z => ?_, fun _ _ p hp => ?_⟩))
      · have z' := h2.nil_iff.mp z
        subst z'
        exact q _ H G [] (Grow.refl e) ⟨⟨b, ys, rfl, h3, h4⟩, rfl⟩
      · have z' := h4.nil_iff.mp z
        subst z'
        refine q _ H G [] (Grow.refl e) ⟨⟨a, xs, rfl, h1, ?_⟩, rfl⟩
        rw [List.append_nil]; exact h2
      · have g := Grow.newF (o := .tup (xs ++ ys)) e hp
        exact q _ _ _ [] g ⟨⟨p, _, rfl, upd_same, RepFs.mono g.gg _ _ (h2.append h4)⟩, rfl⟩
    · cases hw
  · cases hw
/-- int operations -/
theorem g_int2 {C : Int → Int → Prop} {f : Int → Int → Int} {g : W → W → Option W} (h : ∀ u v w, g u v = some w → ∃ i j k l, u = (k, .int i) ∧ v = (l, .int j) ∧ C i j ∧ w = (0, .int (f i j))) : Op2 K (rI C fun i j => .int (f i j)) g := by
  intro G H u v x y Fu Fv w e ru rv hw
  obtain ⟨i, j, k, l, rfl, rfl, hc, rfl⟩ := h u v w hw
  obtain rfl := RO.int ru
  obtain rfl := RO.int rv
  exact Res.pure e rfl fun Q q => ⟨_, _, rfl, rfl, hc, q⟩
theorem g_int20 {f : Int → Int → Int} {g : W → W → Option W} (h : ∀ u v w, g u v = some w → ∃ i j k l, u = (k, .int i) ∧ v = (l, .int j) ∧ w = (0, .int (f i j))) : Op2 K (rI0 fun i j => .int (f i j)) g := by
  intro G H u v x y Fu Fv w e ru rv hw
  obtain ⟨i, j, k, l, rfl, rfl, rfl⟩ := h u v w hw
  obtain rfl := RO.int ru
  obtain rfl := RO.int rv
  exact Res.pure e rfl fun Q q => ⟨_, _, rfl, rfl, q⟩
def gSub : W → W → Option W
  | (_, .int i), (_, .int j) => some (0, .int (i - j))
  | _, _ => none
theorem g_sub : Op2 K (rI0 fun i j => .int (i - j)) gSub := g_int20 fun u v w h => by
  unfold gSub at h; split at h
  · cases h; exact ⟨_, _, _, _, rfl, rfl, rfl⟩
  · cases h
def gMulI : W → W → Option W
  | (_, .int i), (_, .int j) => if (-(2 ^ 64) < j ∧ j < 2 ^ 64) ∨ (-(2 ^ 64) < i ∧ i < 2 ^ 64) then some (0, .int (i * j)) else none
  | _, _ => none
theorem g_mulI : Op2 K (rI CMul fun i j => .int (i * j)) gMulI := g_int2 fun u v w h => by
  unfold gMulI at h; split at h
  · split at h
    · rename_i hc
      cases h; exact ⟨_, _, _, _, rfl, rfl, hc.symm, rfl⟩
    · cases h
  · cases h
def gFdiv : W → W → Option W
  | (_, .int i), (_, .int j) => if 0 < j ∧ j < 1073741824 then some (0, .int (i / j)) else none
  | _, _ => none
theorem g_fdiv : Op2 K (rI CDiv fun i j => .int (i / j)) gFdiv := g_int2 fun u v w h => by
  unfold gFdiv at h; split at h
  · split at h
    · rename_i hc
      cases h; exact ⟨_, _, _, _, rfl, rfl, hc, rfl⟩
    · cases h
  · cases h
def gMod : W → W → Option W
  | (_, .int i), (_, .int j) => if 0 < j then some (0, .int (i % j)) else none
  | _, _ => none
theorem g_mod : Op2 K (rI (fun _ j => 0 < j) fun i j => .int (i % j)) gMod := g_int2 fun u v w h => by
  unfold gMod at h; split at h
  · split at h
    · rename_i hc
      cases h; exact ⟨_, _, _, _, rfl, rfl, hc, rfl⟩
    · cases h
  · cases h
def gPow : W → W → Option W
  | (_, .int i), (_, .int j) => if 0 ≤ j ∧ j ≤ 1000 ∧ i.natAbs < 2 ^ 64 then some (0, .int (i ^ j.toNat)) else none
  | _, _ => none
theorem g_pow : Op2 K (rI CPow fun i j => .int (i ^ j.toNat)) gPow := g_int2 fun u v w h => by
  unfold gPow at h; split at h
  · split at h
    · rename_i hc
      cases h; exact ⟨_, _, _, _, rfl, rfl, ⟨hc.1, by omega, hc.2.2⟩, rfl⟩
    · cases h
  · cases h
def gNeg : W → Option W
  | (_, .int i) => some (0, .int (-i))
  | _ => none
theorem g_neg : Op1 K (rU fun i => .int (-i)) gNeg := by
  intro G H u x Fu w e ru hw
  unfold gNeg at hw; split at hw
  · cases hw
    obtain rfl := ru.int
    exact Res.pure e rfl fun Q q => ⟨_, rfl, q⟩
  · cases hw
/-! ### comparisons -/
def gCmpI (p : Int → Int → Bool) : W → W → Option W
  | (_, .int i), (_, .int j) => some (0, .bl (p i j))
  | _, _ => none
theorem g_cmpI {p : Int → Int → Bool} : Op2 K (rI0 fun i j => .bl (p i j)) (gCmpI p) := by
  intro G H u v x y Fu Fv w e ru rv hw
  unfold gCmpI at hw; split at hw
  · cases hw
    obtain rfl := ru.int
    obtain rfl := rv.int
    exact Res.pure e rfl fun Q q => ⟨_, _, rfl, rfl, q⟩
  · cases hw
/-- scalars -/
def gEqS : D → D → Option Bool
  | .int i, .int j => some (decide (i = j))
  | .str i, .str j => some (decide (i = j))
  | .bl i, .bl j => some (decide (i = j))
  | .non, .non => some true
  | .non, .int _ => some false
  | .int _, .non => some false
  | .non, .str _ => some false
  | .str _, .non => some false
  | .non, .bl _ => some false
  | .bl _, .non => some false
  | .int _, .str _ => some false
  | .str _, .int _ => some false
  | .bl _, .str _ => some false
  | .str _, .bl _ => some false
  | _, _ => none
mutual
def toPy : D → Option PyData
  | .non => some .none
  | .bl b => some (.bool b)
  | .int i => some (.int i)
  | .str s => some (.str s)
  | .tup ds => (toPys ds).map .tuple
  | .lst ds => (toPys ds).map .list
  | .dct _ _ => none
  | .scr _ => none
  | .ktp ds => (toPys ds).map .tuple
def toPys : List D → Option (List PyData)
  | [] => some []
  | d :: ds => (toPy d).bind fun p => (toPys ds).map fun ps => p :: ps
end
def gEqP (p q : PyData) : Option Bool := if SeqAt.shaped p = true ∧ SeqAt.shaped q = true then some (PyData.eqv p q) else none
def gEqD (c d : D) : Option Bool := match gEqS c d with
  | some b => some b
  | none => (toPy c).bind fun p => (toPy d).bind fun q => gEqP p q
/-- lists are compared where their items are frozen -/
def eqOk (w : W) : Bool := decide (w.1 ≤ 1) || !isBox w.2
def gEq (u v : W) : Option W := if eqOk u && eqOk v then (gEqD u.2 v.2).map fun b => (0, .bl b) else none
def gNe (u v : W) : Option W := if eqOk u && eqOk v then (gEqD u.2 v.2).map fun b => (0, .bl (!b)) else none
theorem scal_of {c d : D} {b : Bool} (h : gEqS c d = some b) : ∀ {k l : Nat} {x y : V} {Fu Fv : List Addr}, RO K G H k c x Fu → RO K G H l d y Fv → scal x y = true ∧ decide (x = y) = b := by
  intro k l x y Fu Fv ru rv
  unfold gEqS at h
  split at h <;> first
    | (cases h; obtain rfl := ru.int; obtain rfl := rv.int; exact ⟨rfl, by simp⟩)
    | (cases h; obtain rfl := ru.str; obtain rfl := rv.str; exact ⟨rfl, by simp⟩)
    | (cases h; obtain rfl := ru.bl; obtain rfl := rv.bl; exact ⟨rfl, by simp⟩)
    | (cases h; obtain rfl := ru.non; obtain rfl := rv.non; exact ⟨rfl, by simp⟩)
    | (cases h; obtain rfl := ru.non; obtain rfl := rv.int; exact ⟨rfl, by simp⟩)
    | (cases h; obtain rfl := ru.int; obtain rfl := rv.non; exact ⟨rfl, by simp⟩)
    | (cases h; obtain rfl := ru.non; obtain rfl := rv.str; exact ⟨rfl, by simp⟩)
    | (cases h; obtain rfl := ru.str; obtain rfl := rv.non; exact ⟨rfl, by simp⟩)
    | (cases h; obtain rfl := ru.non; obtain rfl := rv.bl; exact ⟨rfl, by simp⟩)
    | (cases h; obtain rfl := ru.bl; obtain rfl := rv.non; exact ⟨rfl, by simp⟩)
    | (cases h; obtain rfl := ru.int; obtain rfl := rv.str; exact ⟨rfl, by simp⟩)
    | (cases h; obtain rfl := ru.str; obtain rfl := rv.int; exact ⟨rfl, by simp⟩)
    | (cases h; obtain rfl := ru.bl; obtain rfl := rv.str; exact ⟨rfl, by simp⟩)
    | (cases h; obtain rfl := ru.str; obtain rfl := rv.bl; exact ⟨rfl, by simp⟩)
    | cases h
mutual
theorem dp_of (e : Same G H) : ∀ (d : D) (p : PyData) (v : V), toPy d = some p → RepF K G d v → Dp K H v p
  | .non, _, _, h, r => by cases h; cases r; exact .non
  | .bl b, _, _, h, r => by cases h; cases r; exact .bl b
  | .int i, _, _, h, r => by cases h; cases r; exact .int i
  | .str s, _, _, h, r => by cases h; cases r; exact .str s
  | .tup ds, _, _, h, ⟨a, xs, h1, h2, h3⟩ => by
    obtain ⟨ps, hp, rfl⟩ := Option.map_eq_some_iff.mp h
    subst h1
    exact .tup (SqT.of (e _ _ h2)) (dps_of e ds ps xs hp h3)
  | .lst ds, _, _, h, ⟨a, xs, h1, h2, h3⟩ => by
    obtain ⟨ps, hp, rfl⟩ := Option.map_eq_some_iff.mp h
    subst h1
    exact .lst (.inl (.inl (e _ _ h2))) (dps_of e ds ps xs hp h3)
  | .dct _ _, _, _, h, _ => by cases h
  | .scr _, _, _, h, _ => by cases h
  | .ktp ds, _, _, h, ⟨a, xs, h1, h2, h3⟩ => by
    obtain ⟨ps, hp, rfl⟩ := Option.map_eq_some_iff.mp h
    subst h1
    exact .tup (same_t e h2.sq) (dps_of e ds ps xs hp h3)
theorem dps_of (e : Same G H) : ∀ (ds : List D) (ps : List PyData) (xs : List V), toPys ds = some ps → RepFs K G ds xs → DpAll K H xs ps
  | [], _, _, h, r => by cases h; cases r; exact .nil
  | d :: ds, _, _, h, ⟨x, r, h1, h2, h3⟩ => by
    obtain ⟨p, hp, h⟩ := Option.bind_eq_some_iff.mp h
    obtain ⟨ps, hps, rfl⟩ := Option.map_eq_some_iff.mp h
    subst h1
    exact .cons (dp_of e d p x hp h2) (dps_of e ds ps r hps h3)
end
theorem dp_ro (e : Same G H) {k : Nat} {d : D} {p : PyData} {v : V} {F : List Addr} (hk : eqOk (k, d) = true) (h : toPy d = some p) (r : RO K G H k d v F) : Dp K H v p := by
  by_cases hb : isBox d = true
  · have hk1 : k ≤ 1 := by
      unfold eqOk at hk
      simp only [hb, Bool.not_true, Bool.or_false, decide_eq_true_eq] at hk
      exact hk
    cases d <;> first | (cases hb; done) | skip
    · rename_i ds
      obtain ⟨a, xs, rfl, h1, h2⟩ := r.lst1 e hk1
      obtain ⟨ps, hp, rfl⟩ := Option.map_eq_some_iff.mp h
      exact .lst (.inl (.inl h1)) (dps_of e ds ps xs hp h2)
    · cases h
  · exact dp_of e d p v h (RO.plain (by simpa using hb) r).1
def rEqA (K : PySem.W.Frag) : R2 := fun x y H Q => rEq x y H Q ∨ rEqD K x y H Q
def rNeA (K : PySem.W.Frag) : R2 := fun x y H Q => rNe x y H Q ∨ rNeD K x y H Q
theorem op_eqA {X : Cx} (hu : X.A.units + 64 < cLine) : OpR X (compareOp .Eq) (rEqA X.K) := OpR.or op_eq (op_eqD hu)
theorem op_neA {X : Cx} (hu : X.A.units + 64 < cLine) : OpR X (compareOp .NotEq) (rNeA X.K) := OpR.or op_ne (op_neD hu)
theorem eq_core {u v : W} {x y : V} {Fu Fv : List Addr} {b : Bool} (e : Same G H) (ru : RO K G H u.1 u.2 x Fu) (rv : RO K G H v.1 v.2 y Fv) (ok : (eqOk u && eqOk v) = true) (h : gEqD u.2 v.2 = some b) :
    (scal x y = true ∧ decide (x = y) = b) ∨ ∃ d c, Dp K H x d ∧ Dp K H y c ∧ SeqAt.shaped d = true ∧ SeqAt.shaped c = true ∧ PyData.eqv d c = b := by
  obtain ⟨k, c⟩ := u
  obtain ⟨l, d⟩ := v
  rw [Bool.and_eq_true] at ok
  unfold gEqD at h
  split at h
  · rename_i b' hs
    cases h
    exact .inl (scal_of hs ru rv)
  · obtain ⟨p, hp, h⟩ := Option.bind_eq_some_iff.mp h
    obtain ⟨q, hq, h⟩ := Option.bind_eq_some_iff.mp h
    unfold gEqP at h
    split at h
    · rename_i hs
      cases h
      exact .inr ⟨p, q, dp_ro e ok.1 hp ru, dp_ro e ok.2 hq rv, hs.1, hs.2, rfl⟩
    · cases h
theorem g_eq : Op2 K (rEqA K) gEq := by
  intro G H u v x y Fu Fv w e ru rv hw
  unfold gEq at hw
  split at hw
  · rename_i ok
    obtain ⟨b, hb, rfl⟩ := Option.map_eq_some_iff.mp hw
    rcases eq_core e ru rv ok hb with ⟨h1, h2⟩ | ⟨d, c, h1, h2, h3, h4, h5⟩
    · exact Res.pure (v := .bl b) e rfl fun Q q => .inl ⟨h1, by rw [h2]; exact q⟩
    · exact Res.pure (v := .bl b) e rfl fun Q q => .inr ⟨d, c, h1, h2, h3, h4, by rw [h5]; exact q⟩
  · cases hw
theorem g_ne : Op2 K (rNeA K) gNe := by
  intro G H u v x y Fu Fv w e ru rv hw
  unfold gNe at hw
  split at hw
  · rename_i ok
    obtain ⟨b, hb, rfl⟩ := Option.map_eq_some_iff.mp hw
    rcases eq_core e ru rv ok hb with ⟨h1, h2⟩ | ⟨d, c, h1, h2, h3, h4, h5⟩
    · exact Res.pure (v := .bl (!b)) e rfl fun Q q => .inl ⟨h1, by rw [h2]; exact q⟩
    · exact Res.pure (v := .bl (!b)) e rfl fun Q q => .inr ⟨d, c, h1, h2, h3, h4, by rw [h5]; exact q⟩
  · cases hw
/-- is None -/
def isNon : D → Bool
  | .non => true
  | _ => false
theorem isNon_of {k : Nat} {d : D} {x : V} {F : List Addr} (r : RO K G H k d x F) : decide (x = .non) = isNon d := by
  cases d with
  | non => obtain rfl := r.non; rfl
  | bl b => obtain rfl := r.bl; rfl
  | int b => obtain rfl := r.int; rfl
  | str b => obtain rfl := r.str; rfl
  | tup ds => obtain ⟨a, xs, rfl, _⟩ := r.tup; rfl
  | scr ns => obtain ⟨a, rfl, _⟩ := r.scr; rfl
  | ktp ns => obtain ⟨a, xs, rfl, _⟩ := r.ktp; rfl
  | lst ds =>
    cases k with
    | zero => obtain ⟨⟨a, xs, rfl, _⟩, _⟩ := r; rfl
    | succ k => obtain ⟨a, xs, F', rfl, _⟩ := r; rfl
  | dct t ds =>
    cases k with
    | zero => obtain ⟨⟨a, xs, rfl, _⟩, _⟩ := r; rfl
    | succ k => obtain ⟨a, xs, F', rfl, _⟩ := r; rfl
def gIsN : W → W → Option W
  | (_, d), (_, .non) => some (0, .bl (isNon d))
  | _, _ => none
def gNotN : W → W → Option W
  | (_, d), (_, .non) => some (0, .bl (!isNon d))
  | _, _ => none
theorem g_isN : Op2 K (fun x y H Q => y = .non ∧ Q (.bl (decide (x = .non))) H) gIsN := by
  intro G H u v x y Fu Fv w e ru rv hw
  unfold gIsN at hw; split at hw
  · cases hw
    obtain rfl := rv.non
    exact Res.pure (v := .bl _) e rfl fun Q q => ⟨rfl, by rw [isNon_of ru]; exact q⟩
  · cases hw
theorem g_notN : Op2 K (fun x y H Q => y = .non ∧ Q (.bl (!decide (x = .non))) H) gNotN := by
  intro G H u v x y Fu Fv w e ru rv hw
  unfold gNotN at hw; split at hw
  · cases hw
    obtain rfl := rv.non
    exact Res.pure (v := .bl _) e rfl fun Q q => ⟨rfl, by rw [isNon_of ru]; exact q⟩
  · cases hw
/-! ### xs[i], xs[a:b] -/
theorem atI_rep {ds : List D} {xs : List V} {i : Int} {d : D} (h : RepFs K G ds xs) (e : atI ds i = some d) : ∃ x, atI xs i = some x ∧ RepF K G d x := by
  unfold atI at e ⊢
  rw [h.len]
  obtain ⟨j, hj, e⟩ := Option.bind_eq_some_iff.mp e
  obtain ⟨x, h1, h2⟩ := h.get e
  exact ⟨x, by rw [hj]; exact h1, h2⟩
theorem atI_map {α β : Type} {f : α → β} {xs : List α} {i : Int} {a : α} (e : atI xs i = some a) : atI (xs.map f) i = some (f a) := by
  unfold atI at e ⊢
  rw [List.length_map]
  obtain ⟨j, hj, e⟩ := Option.bind_eq_some_iff.mp e
  rw [hj]
  show (xs.map f)[j]? = some (f a)
  rw [List.getElem?_map, e]; rfl
def gIx : W → W → Option W
  | (k, .lst ds), (_, .int i) => if k ≤ 1 then (atI ds i).map fun d => (0, d) else none
  | (_, .tup ds), (_, .int i) => (atI ds i).map fun d => (0, d)
  | (_, .ktp ds), (_, .int i) => (atI ds i).map fun d => (0, d)
  | (_, .scr ns), (_, .int i) => (atI ns i).map fun n => (0, .int n)
  | (_, .str z), (_, .int i) => if z.length ≤ big then (atI z.cps.toList i).map fun c => (0, .str ⟨#[c]⟩) else none
  | _, _ => none
theorem g_ix : Op2 K (rIx K) gIx := by
  intro G H u v x y Fu Fv w e ru rv hw
  unfold gIx at hw; split at hw
  · split at hw
    · rename_i hk
      obtain ⟨d, hd, rfl⟩ := Option.map_eq_some_iff.mp hw
      obtain rfl := rv.int
      obtain ⟨a, xs, rfl, h1, h2⟩ := ru.lst1 e hk
      obtain ⟨z, h3, h4⟩ := atI_rep h2 hd
      exact Res.pure e h4 fun Q q => .inl ⟨a, xs, _, z, rfl, rfl, SqL.of h1, h3, q⟩
    · cases hw
  · obtain ⟨d, hd, rfl⟩ := Option.map_eq_some_iff.mp hw
    obtain rfl := rv.int
    obtain ⟨a, xs, rfl, h1, h2⟩ := ru.tup
    obtain ⟨z, h3, h4⟩ := atI_rep h2 hd
    exact Res.pure e h4 fun Q q => .inr (.inl ⟨a, xs, _, z, rfl, rfl, same_t e h1, h3, q⟩)
  · obtain ⟨d, hd, rfl⟩ := Option.map_eq_some_iff.mp hw
    obtain rfl := rv.int
    obtain ⟨a, xs, rfl, h1, h2⟩ := ru.ktp
    obtain ⟨z, h3, h4⟩ := atI_rep h2 hd
    exact Res.pure e h4 fun Q q => .inr (.inl ⟨a, xs, _, z, rfl, rfl, same_t e h1.sq, h3, q⟩)
  · obtain ⟨d, hd, rfl⟩ := Option.map_eq_some_iff.mp hw
    obtain rfl := rv.int
    obtain ⟨a, rfl, h1⟩ := ru.scr
    exact Res.pure (v := .int d) e rfl fun Q q => .inl ⟨a, _, _, .int d, rfl, rfl, same_l e h1, atI_map hd, q⟩
  · split at hw
    · rename_i hz
      obtain ⟨d, hd, rfl⟩ := Option.map_eq_some_iff.mp hw
      obtain rfl := rv.int
      obtain rfl := ru.str
      exact Res.pure (v := .str ⟨#[d]⟩) e rfl fun Q q => .inr (.inr ⟨_, _, _, rfl, rfl, big_line hz, hd, q⟩)
    · cases hw
  · cases hw
def cutL {α : Type} (xs : List α) (lo hi : Option Int) : List α := (xs.drop (HT.sIx xs.length 0 lo)).take (HT.sIx xs.length xs.length hi - HT.sIx xs.length 0 lo)
theorem cut_rep {ds : List D} {xs : List V} {lo hi : Option Int} (h : RepFs K G ds xs) : RepFs K G (cutL ds lo hi) (cutV xs lo hi) := by
  unfold cutL cutV
  rw [h.len]
  exact (h.drop _).take _
theorem cutL_whole {α : Type} {xs : List α} {lo hi : Option Int} (h : HT.sIx xs.length 0 lo = 0 ∧ HT.sIx xs.length xs.length hi = xs.length) : cutL xs lo hi = xs := by
  unfold cutL
  rw [h.1, h.2]
  simp
end
end Pv
set_option Elab.async false
set_option linter.all false
set_option maxRecDepth 100000
/-! P5: slices, arguments, displays, builtins, tests -/
namespace Pv
open PySem PySem.Spec PyProof.Rows L2
section
variable {X : Cx} {K : PySem.W.Frag} {G0 G G' H H' : Hp} {σ : L2.St} {ρ : Env} {e a b c : Expr} {es : List Expr} {pos : Pos} {A B C : Fe} {T : Fb}
/-! ### slices -/
def oNone : Fo := fun _ => some none
def oSome (A : Fe) : Fo := fun ρ => (val A ρ).bind fun w => match w.2 with | .int i => some (some i) | _ => none
theorem o_none : OkO X none oNone := PO.imp po_none fun σ H Q ⟨G0, ρ, ws, o, I, hf, q⟩ => by
  cases hf
  exact q H I
theorem o_some (h : OkE X e A) : OkO X (some e) (oSome A) := PO.imp (po_some h) fun σ H Q ⟨G0, ρ, ws, o, I, hf, q⟩ => by
  obtain ⟨w, hw, hf⟩ := Option.bind_eq_some_iff.mp hf
  obtain ⟨x, hx, hg⟩ := val_some hw
  refine ⟨G0, ρ, ws, x, I, hx, fun v H' I' => ?_⟩
  obtain ⟨G, F1, F2, J⟩ := I'
  obtain ⟨Fx, r⟩ := J.top hg
  obtain ⟨k, d⟩ := w
  cases d <;> first | (cases hf; done) | skip
  rename_i i
  cases hf
  exact ⟨i, r.int, q H' (SI.drop ⟨G, F1, F2, J⟩)⟩
def gSl : W → Option Int → Option Int → Option W
  | (k, .lst ds), lo, hi => if k ≤ 1 then some (1, .lst (cutL ds lo hi)) else none
  | (_, .tup ds), lo, hi => some (0, .tup (cutL ds lo hi))
  | (_, .str z), lo, hi => if z.length ≤ big then some (0, .str (cutS z lo hi)) else none
  | _, _, _ => none
def rSlAll (K : PySem.W.Frag) : V → Option Int → Option Int → Hp → VK → Prop := fun x lo hi H Q => rSlL K x lo hi H Q ∨ rSlA K x lo hi H Q ∨ rSlS x lo hi H Q
theorem sl_all : SlR X (rSlAll X.K) := SlR.or sl_list (SlR.or sl_tupA sl_str)
theorem g_sl {lo hi : Option Int} {u w : W} {x : V} {Fu : List Addr} (e : Same G H) (ru : RO K G H u.1 u.2 x Fu) (hw : gSl u lo hi = some w) : Res K G H w (rSlAll K x lo hi H) := by
  unfold gSl at hw; split at hw
  · split at hw
    · rename_i hk
      cases hw
      obtain ⟨a, xs, rfl, h1, h2⟩ := ru.lst1 e hk
      exact Res.lst e (cut_rep h2) fun Q q => .inl ⟨a, xs, rfl, SqL.of h1, q⟩
    · cases hw
  · cases hw
    obtain ⟨a, xs, rfl, h1, h2⟩ := ru.tupE
    intro Q q
    refine .inr (.inl ⟨a, xs, rfl, SqT.of (e _ _ h1), fun z => ?_, fun z p hp => ?_⟩)
    · rw [h2.len] at z
      rw [cutL_whole z] at q
      exact q _ H G [] (Grow.refl e) ⟨⟨a, xs, rfl, h1, h2⟩, rfl⟩
    · have g := Grow.newF (o := .tup (cutV xs lo hi)) e hp
      exact q _ _ _ [] g ⟨⟨p, _, rfl, upd_same, RepFs.mono g.gg _ _ (cut_rep h2)⟩, rfl⟩
  · split at hw
    · rename_i hz
      cases hw
      obtain rfl := ru.str
      exact Res.pure e rfl fun Q q => .inr (.inr ⟨_, rfl, big_line hz, q⟩)
    · cases hw
  · cases hw
def pSl (A : Fe) (lo hi : Fo) : Fe := fun ρ => (val A ρ).bind fun u => (lo ρ).bind fun l => (hi ρ).bind fun h => (gSl u l h).map fun w => .v w.1 w.2
theorem e_sl {lo hi : Option Expr} {L U : Fo} {p2 : Pos} (h : OkE X e A) (hl : OkO X lo L) (hu : OkO X hi U) : OkE X (.Subscript e (.Slice lo hi none p2) pos) (pSl A L U) := PE.imp (pe_slice sl_all h hl hu) fun σ H Q ⟨G0, ρ, ws, x, I, hf, q⟩ => by
  obtain ⟨u, hu, hf⟩ := Option.bind_eq_some_iff.mp hf
  obtain ⟨l, hl, hf⟩ := Option.bind_eq_some_iff.mp hf
  obtain ⟨h, hh, hf⟩ := Option.bind_eq_some_iff.mp hf
  obtain ⟨w, hw, rfl⟩ := Option.map_eq_some_iff.mp hf
  obtain ⟨a1, ha, hg1⟩ := val_some hu
  refine ⟨G0, ρ, ws, a1, I, ha, fun x H1 I1 => ⟨G0, ρ, (x, a1) :: ws, l, I1, hl, fun H2 I2 => ⟨G0, ρ, (x, a1) :: ws, h, I2, hh, fun H3 I3 => ?_⟩⟩⟩
  obtain ⟨G, F1, F2, J⟩ := I3
  obtain ⟨Fx, rx⟩ := J.top hg1
  refine g_sl J.ex rx hw Q fun v H' G' F' gr rv => ?_
  obtain ⟨F2', _, J'⟩ := J.drop
  exact q v H' (J'.push gr rv).SI
/-! ### argument lists, displays -/
def aNil : Fa := fun _ => some []
def aCons (A : Fe) (B : Fa) : Fa := fun ρ => (A ρ).bind fun a => (B ρ).map fun as => a :: as
theorem a_nil : OkA X [] aNil := PA.imp pa_nil fun σ H Q ⟨G0, ρ, ws, as, I, hf, q⟩ => by
  cases hf
  exact q [] H rfl I
theorem a_cons {B : Fa} (ha : OkE X e A) (hr : OkA X es B) (hs : starEach (e :: es) X.env = (false, eval e X.env) :: starEach es X.env := by rfl) : OkA X (e :: es) (aCons A B) := PA.imp (pa_cons ha hr hs) fun σ H Q ⟨G0, ρ, ws, as, I, hf, q⟩ => by
  obtain ⟨x, hx, hf⟩ := Option.bind_eq_some_iff.mp hf
  obtain ⟨xs, hxs, rfl⟩ := Option.map_eq_some_iff.mp hf
  refine ⟨G0, ρ, ws, x, I, hx, fun v H1 I1 => ⟨G0, ρ, (v, x) :: ws, xs, I1, hxs, fun vs H2 hl I2 => ?_⟩⟩
  refine q (v :: vs) H2 (by rw [List.length_cons, List.length_cons, hl]) ?_
  rw [List.zip_cons_cons, List.reverse_cons, List.append_assoc]
  exact I2
/-- the waiting values ahead are taken off -/
theorem Si.dropN : ∀ (pre : List (V × Arg)) {ws : List (V × Arg)} {F1 F2 : List Addr}, Si K G0 σ ρ (pre ++ ws) H G F1 F2 → ∃ F2', Si K G0 σ ρ ws H G F1 F2'
  | [], ws, F1, F2, I => ⟨F2, I⟩
  | (x, a) :: pre, ws, F1, F2, I => by
    obtain ⟨F2', _, I'⟩ := Si.drop I
    exact Si.dropN pre I'
theorem Si.mem : ∀ (pre : List (V × Arg)) {ws : List (V × Arg)} {F1 F2 : List Addr}, Si K G0 σ ρ (pre ++ ws) H G F1 F2 → ∀ x a w, (x, a) ∈ pre → a.get ρ = some w → ∃ Fx, RO K G H w.1 w.2 x Fx
  | [], ws, F1, F2, I, _, _, _, h, _ => by cases h
  | (y, b) :: pre, ws, F1, F2, I, x, a, w, h, hg => by
    rcases List.mem_cons.mp h with e | h
    · cases e
      exact Si.top I hg
    · obtain ⟨F2', _, I'⟩ := Si.drop I
      exact Si.mem pre I' x a w h hg
/-- the data of arguments -/
def getAll (ρ : Env) : List Arg → Option (List W)
  | [] => some []
  | a :: as => (a.get ρ).bind fun w => (getAll ρ as).map fun ws => w :: ws
def ROW (K : PySem.W.Frag) (G H : Hp) : List W → List V → Prop
  | [], xs => xs = []
  | u :: us, xs => ∃ x r F, xs = x :: r ∧ RO K G H u.1 u.2 x F ∧ ROW K G H us r
theorem row_of : ∀ (as : List Arg) (vs : List V) (us : List W), vs.length = as.length → getAll ρ as = some us → (∀ x a w, (x, a) ∈ vs.zip as → a.get ρ = some w → ∃ Fx, RO K G H w.1 w.2 x Fx) → ROW K G H us vs
  | [], vs, us, hl, hg, _ => by
    cases hg
    exact List.eq_nil_of_length_eq_zero hl
  | a :: as, [], us, hl, _, _ => by simp at hl
  | a :: as, v :: vs, us, hl, hg, f => by
    obtain ⟨w, hw, hg⟩ := Option.bind_eq_some_iff.mp hg
    obtain ⟨ws, hws, rfl⟩ := Option.map_eq_some_iff.mp hg
    obtain ⟨F, hF⟩ := f v a w (by rw [List.zip_cons_cons]; exact List.mem_cons_self) hw
    exact ⟨v, vs, F, rfl, hF, row_of as vs ws (by simpa using hl) hws fun x b w' hm hg' => f x b w' (by rw [List.zip_cons_cons]; exact List.mem_cons_of_mem _ hm) hg'⟩
theorem Si.rows {vs : List V} {as : List Arg} {us : List W} {ws : List (V × Arg)} {F1 F2 : List Addr} (I : Si K G0 σ ρ ((vs.zip as).reverse ++ ws) H G F1 F2) (hl : vs.length = as.length) (hg : getAll ρ as = some us) : ROW K G H us vs :=
  row_of as vs us hl hg fun x a w hm h => Si.mem _ I x a w (List.mem_reverse.mpr hm) h
/-- a call with values -/
def OpN (K : PySem.W.Frag) (r : List V → Hp → VK → Prop) (g : List W → Option W) : Prop := ∀ G H us xs w, Same G H → ROW K G H us xs → g us = some w → Res K G H w (r xs H)
def pCall (g : List W → Option W) (A : Fa) : Fe := fun ρ => (A ρ).bind fun as => (getAll ρ as).bind fun us => (g us).map fun w => .v w.1 w.2
theorem opN_imp {r : List V → Hp → VK → Prop} {g : List W → Option W} {B : Fa} (hg : OpN K r g) (σ : L2.St) (H : Hp) (Q : VK) (h : tE K (pCall g B) σ H Q) : tA K B σ H fun xs H1 => r xs H1 Q := by
  obtain ⟨G0, ρ, ws, a, I, hf, q⟩ := h
  obtain ⟨as, has, hf⟩ := Option.bind_eq_some_iff.mp hf
  obtain ⟨us, hus, hf⟩ := Option.bind_eq_some_iff.mp hf
  obtain ⟨w, hw, rfl⟩ := Option.map_eq_some_iff.mp hf
  refine ⟨G0, ρ, ws, as, I, has, fun vs H1 hl I1 => ?_⟩
  obtain ⟨G, F1, F2, J⟩ := I1
  refine hg G H1 us vs w J.ex (J.rows hl hus) hw Q fun v H' G' F' gr rv => ?_
  obtain ⟨F2', J'⟩ := Si.dropN _ J
  exact q v H' (J'.push gr rv).SI
/-- items of a display: frozen -/
def ownAll : List Arg → Option (List D)
  | [] => some []
  | .v _ d :: as => (ownAll as).map fun ds => d :: ds
  | .r _ :: _ => none
theorem Si.freezeN : ∀ (as : List Arg) (vs : List V) (ds : List D) {ws : List (V × Arg)} {G : Hp} {F1 F2 : List Addr}, vs.length = as.length → ownAll as = some ds → Si K G0 σ ρ (vs.zip as ++ ws) H G F1 F2 →
    ∃ G' F2', Si K G0 σ ρ ws H G' F1 F2' ∧ Same G G' ∧ RepFs K G' ds vs
  | [], vs, ds, ws, G, F1, F2, hl, ho, I => by
    cases ho
    obtain rfl := List.eq_nil_of_length_eq_zero hl
    exact ⟨G, F2, I, Same.refl _, rfl⟩
  | .r _ :: as, vs, ds, ws, G, F1, F2, hl, ho, I => by cases ho
  | .v k d :: as, [], ds, ws, G, F1, F2, hl, ho, I => by simp at hl
  | .v k d :: as, v :: vs, ds, ws, G, F1, F2, hl, ho, I => by
    obtain ⟨ds', hd, rfl⟩ := Option.map_eq_some_iff.mp ho
    obtain ⟨G1, F3, I1, e1, r1⟩ := Si.freeze I
    obtain ⟨G2, F4, I2, e2, r2⟩ := Si.freezeN as vs ds' (by simpa using hl) hd I1
    exact ⟨G2, F4, I2, e1.trans e2, v, vs, rfl, RepF.mono e2 _ _ r1, r2⟩
theorem perm_nodup {l1 l2 : List Addr} (h : l1.Perm l2) (n : l1.Nodup) : l2.Nodup := h.nodup_iff.mp n
theorem RWs.perm {pre pre' : List (V × Arg)} (h : pre.Perm pre') : ∀ {F : List Addr}, RWs K G H σ ρ pre F → ∃ F', F.Perm F' ∧ RWs K G H σ ρ pre' F' := by
  induction h with
  | nil => intro F h; exact ⟨F, .refl _, h⟩
  | @cons p l1 l2 _ ih =>
    obtain ⟨x, a⟩ := p
    intro F h
    cases a with
    | v k d =>
      obtain ⟨Fa, Fb, h2, h3, h4⟩ := h
      obtain ⟨Fc, hp, hc⟩ := ih h4
      subst h2
      exact ⟨Fa ++ Fc, hp.append_left Fa, Fa, Fc, rfl, h3, hc⟩
    | r i =>
      obtain ⟨h1, h2, h3⟩ := h
      obtain ⟨Fc, hp, hc⟩ := ih h3
      exact ⟨Fc, hp, h1, h2, hc⟩
  | @swap p q l =>
    obtain ⟨x, a⟩ := p
    obtain ⟨y, b⟩ := q
    intro F h
    cases b with
    | v k d =>
      obtain ⟨Fa, Fb, h2, h3, h4⟩ := h
      subst h2
      cases a with
      | v k' d' =>
        obtain ⟨Fc, Fd, h5, h6, h7⟩ := h4
        subst h5
        refine ⟨Fc ++ (Fa ++ Fd), ?_, Fc, Fa ++ Fd, rfl, h6, Fa, Fd, rfl, h3, h7⟩
        rw [← List.append_assoc, ← List.append_assoc]
        exact List.perm_append_comm.append_right Fd
      | r i =>
        obtain ⟨h5, h6, h7⟩ := h4
        exact ⟨Fa ++ Fb, .refl _, h5, h6, Fa, Fb, rfl, h3, h7⟩
    | r i =>
      obtain ⟨h1, h2, h4⟩ := h
      cases a with
      | v k' d' =>
        obtain ⟨Fc, Fd, h5, h6, h7⟩ := h4
        exact ⟨F, .refl _, Fc, Fd, h5, h6, h1, h2, h7⟩
      | r j =>
        obtain ⟨h5, h6, h7⟩ := h4
        exact ⟨F, .refl _, h5, h6, h1, h2, h7⟩
  | trans _ _ ih1 ih2 =>
    intro F h
    obtain ⟨F1, p1, h1⟩ := ih1 h
    obtain ⟨F2, p2, h2⟩ := ih2 h1
    exact ⟨F2, p1.trans p2, h2⟩
theorem Si.perm {ws ws' : List (V × Arg)} {F1 F2 : List Addr} (h : ws.Perm ws') (I : Si K G0 σ ρ ws H G F1 F2) : ∃ F2', Si K G0 σ ρ ws' H G F1 F2' := by
  obtain ⟨F2', hp, h'⟩ := RWs.perm h I.wv
  refine ⟨F2', I.ex0, I.ex, I.sl, h', perm_nodup (hp.append_left F1) I.nd, fun a ha => I.fr a ?_, I.tu, I.ln⟩
  exact (hp.append_left F1).mem_iff.mpr ha
def pTup (A : Fa) : Fe := fun ρ => (A ρ).bind fun as => if as.length ≤ 1000 then (ownAll as).map fun ds => .v 0 (.tup ds) else none
def pLst (A : Fa) : Fe := fun ρ => (A ρ).bind fun as => if as.length ≤ 1000 then (ownAll as).map fun ds => .v 1 (.lst ds) else none
theorem e_tup {B : Fa} {x1} (h : OkA X es B) : OkE X (.Tuple es x1 pos) (pTup B) := PE.imp (pe_tup h) fun σ H Q ⟨G0, ρ, ws, a, I, hf, q⟩ => by
  obtain ⟨as, has, hf⟩ := Option.bind_eq_some_iff.mp hf
  split at hf
  · rename_i hz
    obtain ⟨ds, hd, rfl⟩ := Option.map_eq_some_iff.mp hf
    refine ⟨G0, ρ, ws, as, I, has, fun vs H1 hl I1 => ⟨by rw [hl]; exact Nat.le_trans hz (by decide), fun p hp => ?_⟩⟩
    obtain ⟨G, F1, F2, J⟩ := I1
    obtain ⟨F3, J⟩ := Si.perm ((List.reverse_perm _).append_right ws) J
    obtain ⟨G1, F4, J1, e1, r1⟩ := Si.freezeN as vs ds hl hd J
    have g := Grow.newF (o := .tup vs) J1.ex hp
    exact q _ _ (J1.push (k := 0) (d := .tup ds) g ⟨⟨p, vs, rfl, upd_same, RepFs.mono g.gg _ _ r1⟩, rfl⟩).SI
  · cases hf
theorem e_lst {B : Fa} (h : OkA X es B) : OkE X (.List es pos) (pLst B) := PE.imp (pe_lst h) fun σ H Q ⟨G0, ρ, ws, a, I, hf, q⟩ => by
  obtain ⟨as, has, hf⟩ := Option.bind_eq_some_iff.mp hf
  split at hf
  · rename_i hz
    obtain ⟨ds, hd, rfl⟩ := Option.map_eq_some_iff.mp hf
    refine ⟨G0, ρ, ws, as, I, has, fun vs H1 hl I1 => ⟨by rw [hl]; exact Nat.le_trans hz (by decide), fun p hp => ?_⟩⟩
    obtain ⟨G, F1, F2, J⟩ := I1
    obtain ⟨F3, J⟩ := Si.perm ((List.reverse_perm _).append_right ws) J
    obtain ⟨G1, F4, J1, e1, r1⟩ := Si.freezeN as vs ds hl hd J
    have g := Grow.newO (o := .lst vs) J1.ex hp trivial
    exact q _ _ (J1.push (k := 1) (d := .lst ds) g ⟨p, vs, [], rfl, upd_same, rfl, ROs.of_F r1⟩).SI
  · cases hf
/-- a builtin function, a builtin class, called by its name -/
theorem e_bi {x : Str} {p : Pos} {id : String} {r : List V → Hp → VK → Prop} {g : List W → Option W} {B : Fa} (hc : CallR X (.builtin id) r) (ho : OpN X.K r g) (hg : Gl X x) (hm : X.mg x = none) (hv : bootBuiltins x = some (.builtin id)) (ha : OkA X (e :: es) B)
    (hn : x ≠ "__name__" := by decide) (hd : (x == ("__debug__" : Str)) = false := by decide) (hs : starEach (e :: es) X.env = (false, eval e X.env) :: starEach es X.env := by rfl) (hp : (backTo pos (starEach es X.env)).any (·.1) = false := by rfl) :
    OkE X (.Call (.Name x p) (e :: es) [] pos) (pCall g B) := PE.imp (pe_callB hc hg hm hv ha hn hd hs hp) (opN_imp ho)
theorem e_ty {x : Str} {p : Pos} {T : String} {r : List V → Hp → VK → Prop} {g : List W → Option W} {B : Fa} (hc : CallR X (.type T) r) (ho : OpN X.K r g) (hg : Gl X x) (hm : X.mg x = none) (hv : bootBuiltins x = some (.type T)) (ha : OkA X (e :: es) B)
    (hn : x ≠ "__name__" := by decide) (hd : (x == ("__debug__" : Str)) = false := by decide) (hs : starEach (e :: es) X.env = (false, eval e X.env) :: starEach es X.env := by rfl) (hp : (backTo pos (starEach es X.env)).any (·.1) = false := by rfl) :
    OkE X (.Call (.Name x p) (e :: es) [] pos) (pCall g B) := PE.imp (pe_callTy hc hg hm hv ha hn hd hs hp) (opN_imp ho)
theorem ROW.one {u : W} {xs : List V} (h : ROW K G H [u] xs) : ∃ x F, xs = [x] ∧ RO K G H u.1 u.2 x F := by
  obtain ⟨x, r, F, h1, h2, h3⟩ := h
  exact ⟨x, F, by rw [h1, show r = [] from h3], h2⟩
theorem ROW.two {u v : W} {xs : List V} (h : ROW K G H [u, v] xs) : ∃ x y F F', xs = [x, y] ∧ RO K G H u.1 u.2 x F ∧ RO K G H v.1 v.2 y F' := by
  obtain ⟨x, r, F, h1, h2, h3⟩ := h
  obtain ⟨y, F', rfl, h4⟩ := ROW.one h3
  exact ⟨x, y, F, F', h1, h2, h4⟩
def on1 (g : W → Option W) : List W → Option W
  | [u] => g u
  | _ => none
def on2 (g : W → W → Option W) : List W → Option W
  | [u, v] => g u v
  | _ => none
theorem opN_1 {r : List V → Hp → VK → Prop} {g : W → Option W} (h : Op1 K (fun x H Q => r [x] H Q) g) : OpN K r (on1 g) := by
  intro G H us xs w e hr hw
  unfold on1 at hw
  split at hw
  · obtain ⟨x, F, rfl, h1⟩ := hr.one
    exact h G H _ x F w e h1 hw
  · cases hw
theorem opN_2 {r : List V → Hp → VK → Prop} {g : W → W → Option W} (h : Op2 K (fun x y H Q => r [x, y] H Q) g) : OpN K r (on2 g) := by
  intro G H us xs w e hr hw
  unfold on2 at hw
  split at hw
  · obtain ⟨x, y, F, F', rfl, h1, h2⟩ := hr.two
    exact h G H _ _ x y F F' w e h1 h2 hw
  · cases hw
/-! ### tests -/
def truth : W → Option Bool
  | (_, .non) => some false
  | (_, .bl b) => some b
  | (_, .int i) => some (i != 0)
  | (_, .str z) => if z.length ≤ big then some ((z.length : Int) != 0) else none
  | (_, .tup ds) => some (!ds.isEmpty)
  | (_, .lst ds) => some (!ds.isEmpty)
  | _ => none
theorem empty_len {α β : Type} {xs : List α} {ys : List β} (h : xs.length = ys.length) : xs.isEmpty = ys.isEmpty := by
  cases xs <;> cases ys <;> simp at h ⊢
theorem truth_of {w : W} {x : V} {F : List Addr} {b : Bool} (e : Same G H) (r : RO K G H w.1 w.2 x F) (h : truth w = some b) : TruV K x H b := by
  unfold truth at h; split at h
  · cases h; obtain rfl := r.non; rfl
  · cases h; obtain rfl := r.bl; rfl
  · cases h; obtain rfl := r.int; rfl
  · split at h
    · rename_i hz
      cases h; obtain rfl := r.str; exact ⟨big_line hz, rfl⟩
    · cases h
  · cases h
    obtain ⟨a, xs, rfl, h1, h2⟩ := r.tup
    exact .inr (.inl ⟨xs, same_t e h1, by rw [empty_len h2.len]⟩)
  · cases h
    obtain ⟨a, xs, rfl, h1, h2⟩ := r.lstN e
    exact .inl ⟨xs, SqL.of h1, by rw [empty_len h2]⟩
  · cases h
def bTru (A : Fe) : Fb := fun ρ => (val A ρ).bind truth
def bVal (A : Fe) : Fb := fun ρ => (val A ρ).bind fun w => match w.2 with | .bl b => some b | _ => none
theorem t_tru (h : OkE X e A) (he : ∀ whole, isTrue e X.env whole = (do let v ← whole; standAt e.pos; holding [v] (truthy v)) := by exact fun _ => rfl) : OkT X e (bTru A) := PT.imp (pt_truth h he) fun σ H Q ⟨G0, ρ, ws, b, I, hf, q⟩ => by
  obtain ⟨w, hw, hf⟩ := Option.bind_eq_some_iff.mp hf
  obtain ⟨a, ha, hg⟩ := val_some hw
  refine ⟨G0, ρ, ws, a, I, ha, fun x H1 I1 => ?_⟩
  obtain ⟨G, F1, F2, J⟩ := I1
  obtain ⟨Fx, rx⟩ := J.top hg
  exact ⟨b, truth_of J.ex rx hf, q H1 (SI.drop ⟨G, F1, F2, J⟩)⟩
/-- a reading of bools, as a test -/
theorem bVal_imp {t : TE} (hi : ∀ σ H Q, tE K A σ H Q → t σ H Q) (σ : L2.St) (H : Hp) (Q : Bool → Hp → Prop) (h : tT K (bVal A) σ H Q) : t σ H fun x H' => ∃ k, x = .bl k ∧ Q k H' := by
  obtain ⟨G0, ρ, ws, b, I, hf, q⟩ := h
  obtain ⟨w, hw, hf⟩ := Option.bind_eq_some_iff.mp hf
  obtain ⟨a, ha, hg⟩ := val_some hw
  refine hi _ _ _ ⟨G0, ρ, ws, a, I, ha, fun x H1 I1 => ?_⟩
  obtain ⟨G, F1, F2, J⟩ := I1
  obtain ⟨Fx, rx⟩ := J.top hg
  obtain ⟨k, d⟩ := w
  cases d <;> first | (cases hf; done) | skip
  cases hf
  exact ⟨b, rx.bl, q H1 (SI.drop ⟨G, F1, F2, J⟩)⟩
theorem t_val (h : OkE X e A) (he : ∀ whole, isTrue e X.env whole = (do let v ← whole; standAt e.pos; holding [v] (truthy v)) := by exact fun _ => rfl) : OkT X e (bVal A) := PT.imp (pt_val h he) (bVal_imp fun _ _ _ h => h)
theorem t_cmp {op : CmpOp} {r : R2} {g : W → W → Option W} (ho : OpR X (compareOp op) r) (hg : Op2 X.K r g) (ha : OkE X a A) (hb : OkE X b B) (hm : behindInMarks op b = false := by rfl) : OkT X (.Compare a [op] [b] pos) (bVal (pOp2 g A B)) :=
  PT.imp (pt_cmpR ho ha hb hm) (bVal_imp (op2_imp hg))
def bNot (T : Fb) : Fb := fun ρ => (T ρ).map (!·)
theorem t_not (h : OkT X e T) : OkT X (.UnaryOp .Not e pos) (bNot T) := PT.imp (pt_not h) fun σ H Q ⟨G0, ρ, ws, b, I, hf, q⟩ => by
  obtain ⟨c, hc, rfl⟩ := Option.map_eq_some_iff.mp hf
  exact ⟨G0, ρ, ws, c, I, hc, q⟩
def bAnd (T U : Fb) : Fb := fun ρ => (T ρ).bind fun c => if c = true then U ρ else some false
def bOr (T U : Fb) : Fb := fun ρ => (T ρ).bind fun c => if c = true then some true else U ρ
def OkW (X : Cx) (e : Expr) (f : Fb) : Prop := PW X e (tT X.K f)
theorem OkW.t (h : OkW X e T) : OkT X e T := PW.pt h
theorem w_and1 (h : OkT X a T) : OkW X (.BoolOp .And [a] pos) T := pw_and1 h
theorem w_or1 (h : OkT X a T) : OkW X (.BoolOp .Or [a] pos) T := pw_or1 h
theorem w_and {U : Fb} {rest : List Expr} (ha : OkT X a T) (hb : OkW X (.BoolOp .And (b :: rest) pos) U) : OkW X (.BoolOp .And (a :: b :: rest) pos) (bAnd T U) := PW.imp (pw_and ha hb) fun σ H Q ⟨G0, ρ, ws, k, I, hf, q⟩ => by
  obtain ⟨c, hc, hf⟩ := Option.bind_eq_some_iff.mp hf
  refine ⟨G0, ρ, ws, c, I, hc, fun H1 I1 => ?_⟩
  cases c with
  | true => rw [if_pos rfl] at hf ⊢; exact ⟨G0, ρ, ws, k, I1, hf, q⟩
  | false => rw [if_neg Bool.false_ne_true] at hf ⊢; cases hf; exact q H1 I1
theorem w_or {U : Fb} {rest : List Expr} (ha : OkT X a T) (hb : OkW X (.BoolOp .Or (b :: rest) pos) U) : OkW X (.BoolOp .Or (a :: b :: rest) pos) (bOr T U) := PW.imp (pw_or ha hb) fun σ H Q ⟨G0, ρ, ws, k, I, hf, q⟩ => by
  obtain ⟨c, hc, hf⟩ := Option.bind_eq_some_iff.mp hf
  refine ⟨G0, ρ, ws, c, I, hc, fun H1 I1 => ?_⟩
  cases c with
  | true => rw [if_pos rfl] at hf ⊢; cases hf; exact q H1 I1
  | false => rw [if_neg Bool.false_ne_true] at hf ⊢; exact ⟨G0, ρ, ws, k, I1, hf, q⟩
/-! ### and, or, not, if as values; chains -/
def pIf (T : Fb) (A B : Fe) : Fe := fun ρ => (T ρ).bind fun c => if c = true then A ρ else B ρ
theorem e_if (hc : OkT X c T) (ha : OkE X a A) (hb : OkE X b B) : OkE X (.IfExp c a b pos) (pIf T A B) := PE.imp (pe_ifExp hc ha hb) fun σ H Q ⟨G0, ρ, ws, k, I, hf, q⟩ => by
  obtain ⟨c, hc, hf⟩ := Option.bind_eq_some_iff.mp hf
  refine ⟨G0, ρ, ws, c, I, hc, fun H1 I1 => ?_⟩
  cases c with
  | true => rw [if_pos rfl] at hf ⊢; exact ⟨G0, ρ, ws, k, I1, hf, q⟩
  | false => rw [if_neg Bool.false_ne_true] at hf ⊢; exact ⟨G0, ρ, ws, k, I1, hf, q⟩
def pAnd (A B : Fe) : Fe := fun ρ => (bVal A ρ).bind fun c => if c = true then B ρ else some (.v 0 (.bl false))
def pOr (A B : Fe) : Fe := fun ρ => (bVal A ρ).bind fun c => if c = true then some (.v 0 (.bl true)) else B ρ
theorem push_bl {G0 : Hp} {ρ : Env} {ws : List (V × Arg)} {k : Bool} (I : SI K G0 σ ρ ws H) : SI K G0 σ ρ ((.bl k, .v 0 (.bl k)) :: ws) H := by
  obtain ⟨G, F1, F2, J⟩ := I
  exact (J.pushF (d := .bl k) rfl).SI
theorem e_one {op} (h : OkE X a A) : OkE X (.BoolOp op [a] pos) A := pe_one h
theorem e_and {rest : List Expr} (ha : OkE X a A) (hb : OkE X (.BoolOp .And (b :: rest) pos) B) : OkE X (.BoolOp .And (a :: b :: rest) pos) (pAnd A B) := PE.imp (pe_and ha hb) fun σ H Q ⟨G0, ρ, ws, k, I, hf, q⟩ => by
  obtain ⟨c, hc, hf⟩ := Option.bind_eq_some_iff.mp hf
  refine bVal_imp (fun _ _ _ h => h) σ H _ ⟨G0, ρ, ws, c, I, hc, fun H1 I1 => ?_⟩
  cases c with
  | true => rw [if_pos rfl] at hf ⊢; exact ⟨G0, ρ, ws, k, I1, hf, q⟩
  | false => rw [if_neg Bool.false_ne_true] at hf ⊢; cases hf; exact q _ H1 (push_bl I1)
theorem e_or {rest : List Expr} (ha : OkE X a A) (hb : OkE X (.BoolOp .Or (b :: rest) pos) B) : OkE X (.BoolOp .Or (a :: b :: rest) pos) (pOr A B) := PE.imp (pe_or ha hb) fun σ H Q ⟨G0, ρ, ws, k, I, hf, q⟩ => by
  obtain ⟨c, hc, hf⟩ := Option.bind_eq_some_iff.mp hf
  refine bVal_imp (fun _ _ _ h => h) σ H _ ⟨G0, ρ, ws, c, I, hc, fun H1 I1 => ?_⟩
  cases c with
  | true => rw [if_pos rfl] at hf ⊢; cases hf; exact q _ H1 (push_bl I1)
  | false => rw [if_neg Bool.false_ne_true] at hf ⊢; exact ⟨G0, ρ, ws, k, I1, hf, q⟩
def pNot (A : Fe) : Fe := fun ρ => ((val A ρ).bind truth).map fun b => .v 0 (.bl (!b))
theorem e_not (ha : OkE X a A) : OkE X (.UnaryOp .Not a pos) (pNot A) := PE.imp (pe_notT ha) fun σ H Q ⟨G0, ρ, ws, k, I, hf, q⟩ => by
  obtain ⟨b, hb, rfl⟩ := Option.map_eq_some_iff.mp hf
  obtain ⟨w, hw, hb⟩ := Option.bind_eq_some_iff.mp hb
  obtain ⟨a, ha, hg⟩ := val_some hw
  refine ⟨G0, ρ, ws, a, I, ha, fun x H1 I1 => ?_⟩
  obtain ⟨G, F1, F2, J⟩ := I1
  obtain ⟨Fx, rx⟩ := J.top hg
  exact ⟨b, truth_of J.ex rx hb, q _ H1 (push_bl (SI.drop ⟨G, F1, F2, J⟩))⟩
def pChain (g g' : W → W → Option W) (A B C : Fe) : Fe := fun ρ => (val A ρ).bind fun u => (val B ρ).bind fun v => (g u v).bind fun w => match w.2 with
  | .bl true => (val C ρ).bind fun z => (g' v z).map fun w => .v w.1 w.2
  | .bl false => some (.v 0 (.bl false))
  | _ => none
theorem chain_imp {r r' : R2} {g g' : W → W → Option W} (hg : Op2 K r g) (hg' : Op2 K r' g') (σ : L2.St) (H : Hp) (Q : VK) (h : tE K (pChain g g' A B C) σ H Q) : tChain r r' (tE K A) (tE K B) (tE K C) σ H Q := by
  obtain ⟨G0, ρ, ws, a, I, hf, q⟩ := h
  obtain ⟨u, hu, hf⟩ := Option.bind_eq_some_iff.mp hf
  obtain ⟨v, hv, hf⟩ := Option.bind_eq_some_iff.mp hf
  obtain ⟨w, hw, hf⟩ := Option.bind_eq_some_iff.mp hf
  obtain ⟨a1, ha, hg1⟩ := val_some hu
  obtain ⟨a2, hb, hg2⟩ := val_some hv
  refine ⟨G0, ρ, ws, a1, I, ha, fun x H1 I1 => ⟨G0, ρ, (x, a1) :: ws, a2, I1, hb, fun y H2 I2 => ?_⟩⟩
  obtain ⟨G, F1, F2, J⟩ := I2
  obtain ⟨Fy, ry⟩ := J.top hg2
  obtain ⟨Fx, rx⟩ := J.next hg1
  refine hg G H2 u v x y Fx Fy w J.ex rx ry hw _ fun z H' G' F' gr rv => ?_
  obtain ⟨k, d⟩ := w
  cases d <;> first | (cases hf; done) | skip
  rename_i b
  refine ⟨b, RO.bl rv, ?_⟩
  have I3 : SI K G0 σ ρ ((y, a2) :: (x, a1) :: ws) H' := (J.grow gr).SI
  cases b with
  | false =>
    rw [if_neg Bool.false_ne_true]
    cases hf
    exact q _ H' (push_bl (SI.drop (SI.drop I3)))
  | true =>
    rw [if_pos rfl]
    obtain ⟨zz, hz, hf⟩ := Option.bind_eq_some_iff.mp hf
    obtain ⟨w2, hw2, rfl⟩ := Option.map_eq_some_iff.mp hf
    obtain ⟨a3, hc, hg3⟩ := val_some hz
    refine ⟨G0, ρ, _, a3, I3, hc, fun z2 H4 I4 => ?_⟩
    obtain ⟨G4, F14, F24, J4⟩ := I4
    obtain ⟨Fz, rz⟩ := J4.top hg3
    obtain ⟨Fy', ry'⟩ := J4.next hg2
    refine hg' G4 H4 v zz y z2 Fy' Fz w2 J4.ex ry' rz hw2 _ fun z5 H5 G5 F5 gr5 rv5 => ?_
    obtain ⟨Fa, _, Ja⟩ := J4.drop
    obtain ⟨Fb, _, Jb⟩ := Ja.drop
    obtain ⟨Fc, _, Jc⟩ := Jb.drop
    exact q z5 H5 (Jc.push gr5 rv5).SI
theorem e_chain {op op' : CmpOp} {r r' : R2} {g g' : W → W → Option W} (ho : OpR X (compareOp op) r) (hg : Op2 X.K r g) (ho' : OpR X (compareOp op') r') (hg' : Op2 X.K r' g') (ha : OkE X a A) (hb : OkE X b B) (hc : OkE X c C)
    (hm : lastMarks [op, op'] [b, c] = false := by with_unfolding_all rfl) : OkE X (.Compare a [op, op'] [b, c] pos) (pChain g g' A B C) := PE.imp (pe_chain ho ho' ha hb hc hm) (chain_imp hg hg')
theorem t_chain {op op' : CmpOp} {r r' : R2} {g g' : W → W → Option W} (ho : OpR X (compareOp op) r) (hg : Op2 X.K r g) (ho' : OpR X (compareOp op') r') (hg' : Op2 X.K r' g') (ha : OkE X a A) (hb : OkE X b B) (hc : OkE X c C)
    (hm : lastMarks [op, op'] [b, c] = false := by with_unfolding_all rfl) : OkT X (.Compare a [op, op'] [b, c] pos) (bVal (pChain g g' A B C)) := PT.imp (pt_chain ho ho' ha hb hc hm) (bVal_imp (chain_imp hg hg'))
end
end Pv
set_option Elab.async false
set_option linter.all false
set_option maxRecDepth 100000
/-! P6: statements -/
namespace Pv
open PySem PySem.Spec PyProof.Rows L2
inductive Fl where
  | nx | bk | ct | rt (w : W)
abbrev Fs := Env → Option (Fl × Env)
theorem PS.imp {X : Cx} {st : Stmt} {t t' : TS} (h : PS X st t) (i : ∀ D σ H, t' D σ H → t D σ H) : PS X st t' := ⟨fun pins s σ H D I q => h.run pins s σ H D I (i D σ H q)⟩
theorem PSs.imp {X : Cx} {st : List Stmt} {t t' : TS} (h : PSs X st t) (i : ∀ D σ H, t' D σ H → t D σ H) : PSs X st t' := ⟨fun pins s σ H D I q => h.run pins s σ H D I (i D σ H q)⟩
theorem PG.imp {X : Cx} {e : Expr} {t t' : TG} (h : PG X e t) (i : ∀ v σ H Q, t' v σ H Q → t v σ H Q) : PG X e t' := ⟨fun pins s σ H v u Q I r q => h.run pins s σ H v u Q I r (i v σ H Q q)⟩
theorem PGs.imp {X : Cx} {e : List Expr} {t t' : TGs} (h : PGs X e t) (i : ∀ v σ H Q, t' v σ H Q → t v σ H Q) : PGs X e t' := ⟨fun pins s σ H v u Q I r q => h.run pins s σ H v u Q I r (i v σ H Q q)⟩
/-- a result: what G0 holds is as it was, the rest is new -/
def RetOk (K : PySem.W.Frag) (G0 : Hp) (w : W) (v : V) (H : Hp) : Prop := ∃ G F, Same G0 G ∧ Same G H ∧ RO K G H w.1 w.2 v F ∧ F.Nodup ∧ (∀ a ∈ F, G a = none) ∧ ∀ b o, H b = some o → ¬ isOwn o → G b = some o
def Post (K : PySem.W.Frag) (G0 : Hp) (D : Ends) : Fl → Env → Prop
  | .nx, ρ => ∀ σ H, SI K G0 σ ρ [] H → D.nx σ H
  | .bk, ρ => ∀ σ H, SI K G0 σ ρ [] H → D.bk σ H
  | .ct, ρ => ∀ σ H, SI K G0 σ ρ [] H → D.ct σ H
  | .rt w, _ => ∀ v H, RetOk K G0 w v H → D.rt v H
def tS (K : PySem.W.Frag) (f : Fs) : TS := fun D σ H => ∃ G0 ρ fl ρ', SI K G0 σ ρ [] H ∧ f ρ = some (fl, ρ') ∧ Post K G0 D fl ρ'
def OkS (X : Cx) (st : Stmt) (f : Fs) : Prop := PS X st (tS X.K f)
def OkB (X : Cx) (st : List Stmt) (f : Fs) : Prop := PSs X st (tS X.K f)
section
variable {X : Cx} {K : PySem.W.Frag} {G0 G G' H H' : Hp} {σ : L2.St} {ρ : Env} {ws : List (V × Arg)} {F1 F2 : List Addr} {e a b c : Expr} {es : List Expr} {pos : Pos} {A B C : Fe} {T : Fb} {st : Stmt} {rest : List Stmt} {f g : Fs}
theorem SI.base (I : SI K G σ ρ ws H) (e : Same G0 G) : SI K G0 σ ρ ws H := by
  obtain ⟨G1, F1, F2, I⟩ := I
  exact ⟨G1, F1, F2, e.trans I.ex0, I.ex, I.sl, I.wv, I.nd, I.fr, I.tu, I.ln⟩
theorem Si.up (I : Si K G0 σ ρ ws H G F1 F2) : Pv.SI K G σ ρ ws H := ⟨G, F1, F2, Same.refl _, I.ex, I.sl, I.wv, I.nd, I.fr, I.tu, I.ln⟩
theorem RetOk.base {w : W} {v : V} (e : Same G0 G) (r : RetOk K G w v H) : RetOk K G0 w v H := by
  obtain ⟨G1, F, h1, h⟩ := r
  exact ⟨G1, F, e.trans h1, h⟩
theorem Post.base {D : Ends} {fl : Fl} (e : Same G0 G) (h : Post K G0 D fl ρ) : Post K G D fl ρ := by
  cases fl with
  | nx => exact fun σ H I => h σ H (I.base e)
  | bk => exact fun σ H I => h σ H (I.base e)
  | ct => exact fun σ H I => h σ H (I.base e)
  | rt w => exact fun v H r => h v H (r.base e)
/-! ### blocks -/
def bSeq (f g : Fs) : Fs := fun ρ => (f ρ).bind fun p => match p.1 with
  | .nx => g p.2
  | fl => some (fl, p.2)
def bNil : Fs := fun ρ => some (.nx, ρ)
theorem b_nil : OkB X [] bNil := PSs.imp pss_nil fun D σ H ⟨G0, ρ, fl, ρ', I, hf, post⟩ => by
  cases hf
  exact post σ H I
theorem b_cons (h1 : OkS X st f) (h2 : OkB X rest g) : OkB X (st :: rest) (bSeq f g) := PSs.imp (pss_cons h1 h2) fun D σ H ⟨G0, ρ, fl, ρ', I, hf, post⟩ => by
  obtain ⟨⟨fl1, ρ1⟩, h1, hf⟩ := Option.bind_eq_some_iff.mp hf
  refine ⟨G0, ρ, fl1, ρ1, I, h1, ?_⟩
  cases fl1 with
  | nx => exact fun σ1 H1 I1 => ⟨G0, ρ1, fl, ρ', I1, hf, post⟩
  | bk => cases hf; exact post
  | ct => cases hf; exact post
  | rt w => cases hf; exact post
theorem b_one (h1 : OkS X st f) : OkB X [st] f := PSs.imp (pss_one h1) fun _ _ _ h => h
def sPass : Fs := fun ρ => some (.nx, ρ)
def sBreak : Fs := fun ρ => some (.bk, ρ)
def sCont : Fs := fun ρ => some (.ct, ρ)
theorem s_pass : OkS X (.Pass pos) sPass := PS.imp ps_pass fun D σ H ⟨G0, ρ, fl, ρ', I, hf, post⟩ => by cases hf; exact post σ H I
theorem s_break : OkS X (.Break pos) sBreak := PS.imp ps_break fun D σ H ⟨G0, ρ, fl, ρ', I, hf, post⟩ => by cases hf; exact post σ H I
theorem s_cont : OkS X (.Continue pos) sCont := PS.imp ps_continue fun D σ H ⟨G0, ρ, fl, ρ', I, hf, post⟩ => by cases hf; exact post σ H I
def sIf (T : Fb) (f g : Fs) : Fs := fun ρ => (T ρ).bind fun c => if c = true then f ρ else g ρ
theorem s_if {u v : List Stmt} (hc : OkT X c T) (ha : OkB X u f) (hb : OkB X v g) : OkS X (.If c u v pos) (sIf T f g) := PS.imp (ps_if hc ha hb) fun D σ H ⟨G0, ρ, fl, ρ', I, hf, post⟩ => by
  obtain ⟨k, hk, hf⟩ := Option.bind_eq_some_iff.mp hf
  refine ⟨G0, ρ, [], k, I, hk, fun H1 I1 => ?_⟩
  cases k with
  | true => rw [if_pos rfl] at hf ⊢; exact ⟨G0, ρ, fl, ρ', I1, hf, post⟩
  | false => rw [if_neg Bool.false_ne_true] at hf ⊢; exact ⟨G0, ρ, fl, ρ', I1, hf, post⟩
/-! ### stores -/
/-- no waiting value stands in a slot -/
def noRef : List (V × Arg) → Bool
  | [] => true
  | (_, .v _ _) :: ws => noRef ws
  | (_, .r _) :: _ => false
theorem RWs.any {σ' : L2.St} {ρ' : Env} : ∀ {ws : List (V × Arg)} {F : List Addr}, noRef ws = true → RWs K G H σ ρ ws F → RWs K G H σ' ρ' ws F
  | [], _, _, h => h
  | (x, .v k d) :: ws, F, n, ⟨F1, F2, h2, h3, h4⟩ => ⟨F1, F2, h2, h3, RWs.any n h4⟩
  | (x, .r i) :: ws, F, n, _ => by cases n
theorem Si.store {i : Nat} {x : V} {k : Nat} {d : D} (I : Si K G0 σ ρ ((x, .v k d) :: ws) H G F1 F2) (hi : i < ρ.length) (hr : noRef ws = true) : ∃ F1' F2', Si K G0 (σ.set i (some x)) (ρ.set i (some (k, d))) ws H G F1' F2' := by
  obtain ⟨Fx, Fy, h2, h3, h4⟩ := I.wv
  subst h2
  obtain ⟨Fa, Fi, Fb, e1, e2, e3, e4⟩ := RSl.zoom σ ρ F1 i I.sl hi (by rw [I.ln]; exact hi)
  subst e1
  have sl := e4 G H (some x) (some (k, d)) Fx (Same.refl _) (fun _ _ => rfl) (fun w e => by cases e; exact ⟨x, rfl, h3⟩) (fun e => by cases e)
  have nd := I.nd
  have fr := I.fr
  simp only [List.nodup_append, List.mem_append] at nd fr
  refine ⟨Fa ++ Fx ++ Fb, Fy, I.ex0, I.ex, sl, RWs.any hr h4, ?_, fun b hb => ?_, I.tu, by rw [List.length_set, List.length_set]; exact I.ln⟩
  · simp only [List.nodup_append, List.mem_append]
    obtain ⟨⟨⟨n1, n2, n3⟩, n4, n5⟩, ⟨n6, n7, n8⟩, n9⟩ := nd
    refine ⟨⟨⟨n1, n6, fun p hp q hq => n9 p (.inl (.inl hp)) q (.inl hq)⟩, n4, fun p hp q hq => ?_⟩, n7, fun p hp q hq => ?_⟩
    · rcases hp with hp | hp
      · exact n5 p (.inl hp) q hq
      · exact fun e => n9 q (.inr hq) p (.inl hp) e.symm
    · rcases hp with (hp | hp) | hp
      · exact n9 p (.inl (.inl hp)) q (.inr hq)
      · exact n8 p hp q hq
      · exact n9 p (.inr hp) q (.inr hq)
  · simp only [List.mem_append] at hb
    apply fr
    rcases hb with ((hb | hb) | hb) | hb
    · exact .inl (.inl (.inl hb))
    · exact .inr (.inl hb)
    · exact .inl (.inr hb)
    · exact .inr (.inr hb)
theorem SI.store {i : Nat} {x : V} {k : Nat} {d : D} (I : SI K G0 σ ρ ((x, .v k d) :: ws) H) (hi : i < ρ.length) (hr : noRef ws = true := by rfl) : SI K G0 (σ.set i (some x)) (ρ.set i (some (k, d))) ws H := by
  obtain ⟨G, F1, F2, I⟩ := I
  obtain ⟨F1', F2', J⟩ := I.store hi hr
  exact ⟨G, F1', F2', J⟩
def putArg (i : Nat) (a : Arg) (ρ : Env) : Option Env := match a with
  | .v k d => if i < ρ.length then some (ρ.set i (some (k, d))) else none
  | .r _ => none
def sAsg (i : Nat) (A : Fe) : Fs := fun ρ => (A ρ).bind fun a => (putArg i a ρ).map fun ρ' => (.nx, ρ')
theorem asg_imp {i : Nat} {D : Ends} (σ : L2.St) (H : Hp) (h : tS K (sAsg i A) D σ H) : tAsg (tE K A) (gName i) D σ H := by
  obtain ⟨G0, ρ, fl, ρ', I, hf, post⟩ := h
  obtain ⟨a, ha, hf⟩ := Option.bind_eq_some_iff.mp hf
  obtain ⟨ρ1, hp, hf⟩ := Option.map_eq_some_iff.mp hf
  cases hf
  cases a with
  | r j => cases hp
  | v k d =>
    unfold putArg at hp
    simp only at hp
    split at hp
    · rename_i hi
      cases hp
      exact ⟨G0, ρ, [], _, I, ha, fun v H1 I1 => post _ _ (I1.store hi)⟩
    · cases hp
theorem s_asg {i : Nat} {x : Str} {pos' : Pos} (hN : X.N.Nodup) (he : OkE X e A) (hi : X.N[i]? = some x := by rfl) (hx : Loc X.env.scope x := by first | exact Or.inl rfl | exact Or.inr rfl) (hs : swapsWith e (some (.Name x pos')) pos.line X.env = pure false := by rfl)
    (hf : X.fn x = true ∨ X.env.scope.names.lookup x = some .local := by first | exact .inl rfl | exact .inr rfl) : OkS X (.Assign [.Name x pos'] e pos) (sAsg i A) := PS.imp (ps_set hN hi hx he hs hf) fun D σ H h => asg_imp σ H h
/-! ### targets -/
inductive Tg where
  | nm (i : Nat)
  | tp (ts : List Tg)
mutual
def bindT : Tg → W → Env → Option Env
  | .nm i, w, ρ => if i < ρ.length then some (ρ.set i (some w)) else none
  | .tp ts, w, ρ => match w.2 with
    | .tup ds => if ds.length = ts.length then bindTs ts ds ρ else none
    | _ => none
def bindTs : List Tg → List D → Env → Option Env
  | [], _, ρ => some ρ
  | _ :: _, [], _ => none
  | t :: ts, d :: ds, ρ => (bindT t (0, d) ρ).bind fun ρ' => bindTs ts ds ρ'
end
mutual
def slotsT : Tg → List Nat
  | .nm i => [i]
  | .tp ts => slotsTs ts
def slotsTs : List Tg → List Nat
  | [] => []
  | t :: ts => slotsT t ++ slotsTs ts
end
/-- but for the slots S -/
def But (S : List Nat) (σ σ' : L2.St) : Prop := σ'.length = σ.length ∧ ∀ j, j ∉ S → σ'[j]? = σ[j]?
theorem But.trans {S S' : List Nat} {σ σ' σ'' : L2.St} (a : But S σ σ') (b : But S' σ' σ'') : But (S ++ S') σ σ'' := ⟨b.1.trans a.1, fun j hj => by
  simp only [List.mem_append, not_or] at hj
  rw [b.2 j hj.2, a.2 j hj.1]⟩
def tG (K : PySem.W.Frag) (t : Tg) : TG := fun v σ H Q => ∃ G0 ρ ws k d ρ', noRef ws = true ∧ SI K G0 σ ρ ((v, .v k d) :: ws) H ∧ bindT t (k, d) ρ = some ρ' ∧ ∀ σ', But (slotsT t) σ σ' → SI K G0 σ' ρ' ws H → Q σ' H
def tGs (K : PySem.W.Frag) (ts : List Tg) : TGs := fun vs σ H Q => ∃ G ρ ws ds ρ', noRef ws = true ∧ SI K G σ ρ ws H ∧ RepFs K G ds vs ∧ ds.length = ts.length ∧ bindTs ts ds ρ = some ρ' ∧ ∀ σ', But (slotsTs ts) σ σ' → SI K G σ' ρ' ws H → Q σ' H
def OkG (X : Cx) (e : Expr) (t : Tg) : Prop := PG X e (tG X.K t)
def OkGs (X : Cx) (e : List Expr) (t : List Tg) : Prop := PGs X e (tGs X.K t)
theorem g_name {i : Nat} {x : Str} (hN : X.N.Nodup) (hi : X.N[i]? = some x := by rfl) (hx : Loc X.env.scope x := by first | exact Or.inl rfl | exact Or.inr rfl) (hf : X.fn x = true ∨ X.env.scope.names.lookup x = some .local := by first | exact .inl rfl | exact .inr rfl) : OkG X (.Name x pos) (.nm i) :=
  PG.imp (pg_name hN hi hx hf) fun v σ H Q ⟨G0, ρ, ws, k, d, ρ', nr, I, hb, q⟩ => by
  unfold bindT at hb
  split at hb
  · rename_i hlt
    cases hb
    refine q _ ⟨List.length_set, fun j hj => ?_⟩ (I.store hlt nr)
    have : j ≠ i := by simpa [slotsT] using hj
    rw [List.getElem?_set_ne (Ne.symm this)]
  · cases hb
theorem gs_nil : OkGs X [] [] := PGs.imp pgs_nil fun vs σ H Q ⟨G, ρ, ws, ds, ρ', nr, I, r, hl, hb, q⟩ => by
  obtain rfl := List.eq_nil_of_length_eq_zero hl
  cases hb
  exact ⟨r, q σ ⟨rfl, fun _ _ => rfl⟩ I⟩
theorem gs_cons {t : Tg} {ts : List Tg} (h1 : OkG X e t) (h2 : OkGs X es ts) (hs : (assignEach (e :: es) X.env).map (·.2) = assign e X.env :: (assignEach es X.env).map (·.2) := by rfl) : OkGs X (e :: es) (t :: ts) :=
  PGs.imp (pgs_cons h1 h2 hs) fun vs σ H Q ⟨G, ρ, ws, ds, ρ', nr, I, r, hl, hb, q⟩ => by
  cases ds with
  | nil => simp at hl
  | cons d ds =>
    obtain ⟨x, xs, rfl, r1, r2⟩ := r
    obtain ⟨ρ1, hb1, hb2⟩ := Option.bind_eq_some_iff.mp hb
    refine ⟨x, xs, rfl, G, ρ, ws, 0, d, ρ1, nr, ?_, hb1, fun σ1 s1 I1 => ⟨G, ρ1, ws, ds, ρ', nr, I1, r2, by simpa using hl, hb2, fun σ2 s2 I2 => q σ2 (s1.trans s2) I2⟩⟩
    obtain ⟨G1, F1, F2, J⟩ := I
    exact (J.pushF (RepF.mono J.ex0 _ _ r1)).SI
theorem g_tup {k : Nat} {ts : List Tg} (hc : X.calm = true) (h : OkGs X es ts) (hn : (assignEach es X.env).length = ts.length := by rfl) (hst : (assignEach es X.env).findIdx? (·.1) = none := by rfl) : OkG X (.Tuple es k pos) (.tp ts) :=
  PG.imp (pg_tup hc h hn hst) fun v σ H Q ⟨G0, ρ, ws, k, d, ρ', nr, I, hb, q⟩ => by
  unfold bindT at hb
  cases d <;> first | (cases hb; done) | skip
  rename_i ds
  simp only at hb
  split at hb
  · rename_i hl
    obtain ⟨G, F1, F2, J⟩ := I
    obtain ⟨Fx, rx⟩ := J.top (a := .v k (.tup ds)) rfl
    obtain ⟨a, xs, rfl, h1, h2⟩ := rx.tup
    obtain ⟨F2', _, J'⟩ := J.drop
    exact ⟨a, xs, rfl, same_t J.ex h1, by rw [h2.len, hl], G, ρ, ws, ds, ρ', nr, J'.up, h2, hl, hb, fun σ' s I' => q σ' s (I'.base J.ex0)⟩
  · cases hb
/-- target = value -/
def sAsgT (t : Tg) (A : Fe) : Fs := fun ρ => (val A ρ).bind fun w => (bindT t (0, w.2) ρ).map fun ρ' => (.nx, ρ')
theorem s_asgT {tg : Expr} {t : Tg} (he : OkE X e A) (hg : OkG X tg t) (hs : swapsWithSole [tg] e pos.line X.env = pure false := by rfl) (hw : swappedStores [tg] e X.env = pure none := by rfl)
    (h1 : (assignEach [tg] X.env).map (·.2) = [assign tg X.env] := by rfl) (hb : ∀ (w : W) (ρ : Env), isBox w.2 = true → bindT t (0, w.2) ρ = none := by intro w ρ h; cases w with | mk k d => cases d <;> first | (cases h; done) | rfl) : OkS X (.Assign [tg] e pos) (sAsgT t A) :=
  PS.imp (ps_asg he hg hs hw h1) fun D σ H ⟨G0, ρ, fl, ρ', I, hf, post⟩ => by
  obtain ⟨w, hw, hf⟩ := Option.bind_eq_some_iff.mp hf
  obtain ⟨ρ1, hp, hf⟩ := Option.map_eq_some_iff.mp hf
  cases hf
  obtain ⟨a, ha, hg⟩ := val_some hw
  refine ⟨G0, ρ, [], a, I, ha, fun v H1 I1 => ?_⟩
  obtain ⟨G, F1, F2, J⟩ := I1
  obtain ⟨Fx, rx⟩ := J.top hg
  have nb : isBox w.2 = false := by
    cases q : isBox w.2 with
    | false => rfl
    | true => rw [hb w ρ q] at hp; cases hp
  obtain ⟨F2', _, J'⟩ := J.drop
  exact ⟨G0, ρ, [], 0, w.2, _, rfl, (J'.pushF (rx.plain nb).1).SI, hp, fun σ' _ I' => post σ' H1 I'⟩
/-! ### several names at once -/
def putAll : List Nat → List Arg → Env → Option Env
  | [], [], ρ => some ρ
  | i :: is, a :: as, ρ => (putArg i a ρ).bind fun ρ' => putAll is as ρ'
  | _, _, _ => none
def sPar (is : List Nat) (A : Fa) : Fs := fun ρ => (A ρ).bind fun as => (putAll is as ρ).map fun ρ' => (.nx, ρ')
theorem noRef_of : ∀ {is : List Nat} {as : List Arg} {ρ ρ' : Env} {vs : List V}, putAll is as ρ = some ρ' → noRef (vs.zip as) = true
  | [], [], _, _, vs, _ => by cases vs <;> rfl
  | i :: is, .v k d :: as, ρ, ρ', vs, h => by
    obtain ⟨ρ1, h1, h2⟩ := Option.bind_eq_some_iff.mp h
    cases vs with
    | nil => rfl
    | cons v vs => exact noRef_of (vs := vs) h2
  | i :: is, .r j :: as, ρ, ρ', vs, h => by cases h
  | [], _ :: _, _, _, _, h => by cases h
  | _ :: _, [], _, _, _, h => by cases h
def setAll : List Nat → List V → L2.St → L2.St
  | i :: is, v :: vs, σ => setAll is vs (σ.set i (some v))
  | _, _, σ => σ
theorem SI.storeAll : ∀ {is : List Nat} {as : List Arg} {vs : List V} {σ : L2.St} {ρ ρ' : Env}, vs.length = as.length → putAll is as ρ = some ρ' → SI K G0 σ ρ (vs.zip as) H → SI K G0 (setAll is vs σ) ρ' [] H
  | [], [], vs, σ, ρ, ρ', hl, h, I => by
    cases h
    obtain rfl := List.eq_nil_of_length_eq_zero hl
    exact I
  | i :: is, .v k d :: as, vs, σ, ρ, ρ', hl, h, I => by
    obtain ⟨ρ1, h1, h2⟩ := Option.bind_eq_some_iff.mp h
    cases vs with
    | nil => simp at hl
    | cons v vs =>
      unfold putArg at h1
      simp only at h1
      split at h1
      · rename_i hi
        cases h1
        exact SI.storeAll (is := is) (as := as) (vs := vs) (σ := σ.set i (some v)) (by simpa using hl) h2 (SI.store (ws := vs.zip as) I hi (noRef_of h2))
      · cases h1
  | i :: is, .r j :: as, vs, σ, ρ, ρ', hl, h, I => by cases h
  | [], _ :: _, _, _, _, _, _, h, _ => by cases h
  | _ :: _, [], _, _, _, _, _, h, _ => by cases h
theorem SI.perm {ws' : List (V × Arg)} (h : ws.Perm ws') (I : SI K G0 σ ρ ws H) : SI K G0 σ ρ ws' H := by
  obtain ⟨G, F1, F2, I⟩ := I
  obtain ⟨F3, J⟩ := Si.perm h I
  exact ⟨G, F1, F3, J⟩
theorem par_core {is : List Nat} {B : Fa} {D : Ends} (σ : L2.St) (H : Hp) (h : tS K (sPar is B) D σ H) : tA K B σ H fun vs H1 => vs.length = is.length ∧ ∀ p, (H1 p = none → D.nx (setAll is vs σ) (upd H1 p (.tup vs))) ∧ D.nx (setAll is vs σ) H1 := by
  obtain ⟨G0, ρ, fl, ρ', I, hf, post⟩ := h
  obtain ⟨as, ha, hf⟩ := Option.bind_eq_some_iff.mp hf
  obtain ⟨ρ1, hp, hf⟩ := Option.map_eq_some_iff.mp hf
  cases hf
  refine ⟨G0, ρ, [], as, I, ha, fun vs H1 hl I1 => ?_⟩
  have len : ∀ (is : List Nat) (as : List Arg) (ρ ρ' : Env), putAll is as ρ = some ρ' → as.length = is.length := by
    intro is
    induction is with
    | nil => intro as ρ ρ' h; cases as with
      | nil => rfl
      | cons a as => cases h
    | cons i is ih => intro as ρ ρ' h; cases as with
      | nil => cases h
      | cons a as =>
        obtain ⟨ρ1, h1, h2⟩ := Option.bind_eq_some_iff.mp h
        rw [List.length_cons, List.length_cons, ih as ρ1 ρ' h2]
  rw [List.append_nil] at I1
  have I2 := I1.perm (List.reverse_perm _)
  refine ⟨by rw [hl, len _ _ _ _ hp], fun p => ⟨fun hn => ?_, post _ _ (SI.storeAll hl hp I2)⟩⟩
  obtain ⟨G, F1, F2, J⟩ := I2
  have g := Grow.newF (o := .tup vs) J.ex hn
  exact post _ _ (SI.storeAll hl hp (J.grow g).SI)
theorem s_par2 {i j : Nat} {x y : Str} {B : Fa} {px py pt : Pos} {kt k2 pt2} (hc : X.calm = true) (hN : X.N.Nodup) (ha : OkA X [a, b] B) (hi : X.N[i]? = some x := by rfl) (hj : X.N[j]? = some y := by rfl) (hij : i ≠ j := by decide)
    (hx : X.env.scope.names.lookup x = some .local := by rfl) (hy : X.env.scope.names.lookup y = some .local := by rfl)
    (hw : swappedStores [.Tuple [.Name x px, .Name y py] kt pt] (.Tuple [a, b] k2 pt2) X.env = pure (some [x, y]) := by rfl)
    (hs : swapsWithSole [.Tuple [.Name x px, .Name y py] kt pt] (.Tuple [a, b] k2 pt2) pos.line X.env = pure false := by rfl) :
    OkS X (.Assign [.Tuple [.Name x px, .Name y py] kt pt] (.Tuple [a, b] k2 pt2) pos) (sPar [i, j] B) := PS.imp (ps_par hc hN hi hj hij hx hy ha hw hs) fun D σ H h => by
  obtain ⟨G0, ρ, ws, as, I, hA, q⟩ := par_core σ H h
  refine ⟨G0, ρ, ws, as, I, hA, fun vs H1 hl I1 => ?_⟩
  obtain ⟨hn, q⟩ := q vs H1 hl I1
  match vs, hn, q with
  | [v, w], _, q => exact ⟨v, w, rfl, (q 0).2⟩
/-- the names all at once, by way of the tuple -/
def OkNs (X : Cx) : List Expr → List Nat → Prop
  | [], [] => True
  | e :: es, i :: is => PG X e (gName i) ∧ (assignEach (e :: es) X.env).map (·.2) = assign e X.env :: (assignEach es X.env).map (·.2) ∧ OkNs X es is
  | _, _ => False
def gNames : List Nat → TGs
  | [] => gNil
  | i :: is => gCons (gName i) (gNames is)
theorem pgs_names : ∀ {es : List Expr} {is : List Nat}, OkNs X es is → PGs X es (gNames is)
  | [], [], _ => pgs_nil
  | e :: es, i :: is, h => pgs_cons h.1 (pgs_names h.2.2) h.2.1
  | [], _ :: _, h => h.elim
  | _ :: _, [], h => h.elim
theorem gNames_of : ∀ {is : List Nat} {vs : List V} {σ : L2.St} {H : Hp} {Q : L2.St → Hp → Prop}, vs.length = is.length → Q (setAll is vs σ) H → gNames is vs σ H Q
  | [], vs, σ, H, Q, hl, h => by
    obtain rfl := List.eq_nil_of_length_eq_zero hl
    exact ⟨rfl, h⟩
  | i :: is, [], σ, H, Q, hl, h => by simp at hl
  | i :: is, v :: vs, σ, H, Q, hl, h => ⟨v, vs, rfl, gNames_of (by simpa using hl) h⟩
theorem s_parN {is : List Nat} {ts : List Expr} {B : Fa} {kt k2 : _} {pt pt2 : Pos} (hc : X.calm = true) (ha : OkA X es B) (hg : OkNs X ts is) (hz : is.length ≤ 1000 := by decide) (hs : swapsWithSole [.Tuple ts kt pt] (.Tuple es k2 pt2) pos.line X.env = pure false := by rfl)
    (hw : swappedStores [.Tuple ts kt pt] (.Tuple es k2 pt2) X.env = pure none := by rfl) (h1 : (assignEach [.Tuple ts kt pt] X.env).map (·.2) = [assign (.Tuple ts kt pt) X.env] := by rfl)
    (hn : (assignEach ts X.env).length = is.length := by rfl) (hst : (assignEach ts X.env).findIdx? (·.1) = none := by rfl) : OkS X (.Assign [.Tuple ts kt pt] (.Tuple es k2 pt2) pos) (sPar is B) :=
  PS.imp (ps_asg (pe_tup ha) (pg_tup hc (pgs_names hg) hn hst) hs hw h1) fun D σ H h => by
  obtain ⟨G0, ρ, ws, as, I, hA, q⟩ := par_core σ H h
  refine ⟨G0, ρ, ws, as, I, hA, fun vs H1 hl I1 => ?_⟩
  obtain ⟨hn, q⟩ := q vs H1 hl I1
  refine ⟨by rw [hn]; exact Nat.le_trans hz (by decide), fun p hp => ?_⟩
  exact ⟨p, vs, rfl, .inl (.inl upd_same), hn, gNames_of hn ((q p).1 hp)⟩
/-! ### name op= e -/
def sAug (i : Nat) (g : W → W → Option W) (A : Fe) : Fs := fun ρ => ((ρ[i]?).join).bind fun u => (val A ρ).bind fun v => (g u v).bind fun w => if i < ρ.length then some (.nx, ρ.set i (some w)) else none
theorem s_aug {i : Nat} {x : Str} {op : Operator} {r : R2} {gg : W → W → Option W} {pos' : Pos} (hN : X.N.Nodup) (ho : PIp X op r) (hg : Op2 X.K r gg) (he : OkE X e A) (hi : X.N[i]? = some x := by rfl) (hx : Loc X.env.scope x := by first | exact Or.inl rfl | exact Or.inr rfl)
    (hf : X.fn x = true ∨ X.env.scope.names.lookup x = some .local := by first | exact .inl rfl | exact .inr rfl) : OkS X (.AugAssign (.Name x pos') op e pos) (sAug i gg A) := PS.imp (ps_aug hN hi hx he ho hf) fun D σ H ⟨G0, ρ, fl, ρ', I, hf, post⟩ => by
  obtain ⟨u, hu, hf⟩ := Option.bind_eq_some_iff.mp hf
  obtain ⟨v, hv, hf⟩ := Option.bind_eq_some_iff.mp hf
  obtain ⟨w, hw, hf⟩ := Option.bind_eq_some_iff.mp hf
  split at hf
  · rename_i hi
    cases hf
    obtain ⟨a, ha, hga⟩ := val_some hv
    have hs : ∃ x, σ[i]? = some (some x) := by
      obtain ⟨G, F1, F2, J⟩ := I
      obtain ⟨v, Fi, h1, _, _⟩ := J.sl.at (join_some hu)
      exact ⟨v, h1⟩
    obtain ⟨x, hx⟩ := hs
    refine ⟨x, hx, G0, ρ, [], a, I, ha, fun y H1 I1 => ?_⟩
    obtain ⟨G, F1, F2, J⟩ := I1
    obtain ⟨Fy, ry⟩ := J.top hga
    obtain ⟨x', Fi, h1, rx, _⟩ := J.sl.at (join_some hu)
    rw [hx] at h1
    cases h1
    refine hg G H1 u v x y Fi Fy w J.ex rx ry hw _ fun z H' G' F' gr rv => ?_
    obtain ⟨F2', _, J'⟩ := J.drop
    obtain ⟨F1', F2'', J2⟩ := (J'.push gr rv).store hi rfl
    exact post _ _ J2.SI
  · cases hf
/-! ### return -/
def sRet (A : Fe) : Fs := fun ρ => (A ρ).bind fun a => (a.get ρ).map fun w => (.rt w, ρ)
theorem s_ret (he : OkE X e A) : OkS X (.Return (some e) pos) (sRet A) := PS.imp (ps_ret he) fun D σ H ⟨G0, ρ, fl, ρ', I, hf, post⟩ => by
  obtain ⟨a, ha, hf⟩ := Option.bind_eq_some_iff.mp hf
  obtain ⟨w, hw, hf⟩ := Option.map_eq_some_iff.mp hf
  cases hf
  refine ⟨G0, ρ, [], a, I, ha, fun v H1 I1 => post v H1 ?_⟩
  obtain ⟨G, F1, F2, J⟩ := I1
  cases a with
  | v k d =>
    cases hw
    obtain ⟨Fa, Fb, h2, h3, h4⟩ := J.wv
    subst h2
    have nd := J.nd
    simp only [List.nodup_append] at nd
    exact ⟨G, Fa, J.ex0, J.ex, h3, nd.2.1.1, fun b hb => J.fr b (by simp [hb]), J.tu⟩
  | r i =>
    obtain ⟨h1, ⟨w', h2⟩, h3⟩ := J.wv
    have hw' : ρ[i]? = some (some w) := join_some hw
    have hi : i < ρ.length := (List.getElem?_eq_some_iff.mp hw').1
    obtain ⟨Fa, Fi, Fb, e1, e2, e3, e4⟩ := RSl.zoom σ ρ F1 i J.sl hi (by rw [J.ln]; exact hi)
    obtain ⟨v', q1, q2⟩ := e2 w hw'
    rw [h1] at q1
    cases q1
    subst e1
    have nd := J.nd
    simp only [List.nodup_append] at nd
    exact ⟨G, Fi, J.ex0, J.ex, q2, nd.1.1.2.1, fun b hb => J.fr b (by simp [hb]), J.tu⟩
def sRetN : Fs := fun ρ => some (.rt (0, .non), ρ)
theorem s_retN : OkS X (.Return none pos) sRetN := PS.imp ps_retN fun D σ H ⟨G0, ρ, fl, ρ', I, hf, post⟩ => by
  cases hf
  obtain ⟨G, F1, F2, J⟩ := I
  exact post _ _ ⟨G, [], J.ex0, J.ex, ⟨rfl, rfl⟩, List.nodup_nil, (fun a h => by cases h), J.tu⟩
end
end Pv
set_option Elab.async false
set_option linter.all false
set_option maxRecDepth 100000
/-! P7: loops, comprehensions -/
namespace Pv
open PySem PySem.Spec PyProof.Rows L2
theorem PI.imp {X : Cx} {tg e : Expr} {t t' : TI} (h : PI X tg e t) (i : ∀ σ H R, t' σ H R → t σ H R) : PI X tg e t' := ⟨fun pins s σ H R I q => h.run pins s σ H R I (i σ H R q)⟩
/-- what an iterator gives, while P holds -/
structure Items (K : PySem.W.Frag) (J : It) (ds : List D) (P : Hp → Hp → Prop) : Prop where
  goes : ∀ i G H, i < ds.length → P G H → J.go i H
  stops : ∀ G H, P G H → J.stop ds.length H
  yields : ∀ i G H x H', i < ds.length → P G H → J.yld i H x H' → ∃ G' d, Grow G H G' H' [] ∧ ds[i]? = some d ∧ RepF K G' d x
abbrev Fit := Env → Option (List D)
/-- for a for: over what is frozen -/
def tI (K : PySem.W.Frag) (f : Fit) : TI := fun σ H R => ∃ G0 ρ ds, SI K G0 σ ρ [] H ∧ f ρ = some ds ∧ ∀ J H' G1, Same G0 G1 → SI K G1 σ ρ [] H' → Items K J ds (fun G H => Same G1 G ∧ Same G H) → R J H'
/-- for a comprehension -/
def tIc (K : PySem.W.Frag) (f : Fit) : TI := fun σ H R => ∃ G0 ρ ws ds, SI K G0 σ ρ ws H ∧ f ρ = some ds ∧ ∀ J H' G1, Same G0 G1 → SI K G1 σ ρ ws H' → Items K J ds (fun G H => ∃ ws' F1 F2, Si K G1 σ ρ ws' H G F1 F2) → R J H'
def OkI (X : Cx) (tg e : Expr) (f : Fit) : Prop := PI X tg e (tI X.K f)
def OkIc (X : Cx) (tg e : Expr) (f : Fit) : Prop := PI X tg e (tIc X.K f)
section
variable {X : Cx} {K : PySem.W.Frag} {G0 G G' H H' : Hp} {σ : L2.St} {ρ : Env} {ws : List (V × Arg)} {F1 F2 : List Addr} {e a b c tg : Expr} {es : List Expr} {pos : Pos} {A B C : Fe} {T : Fb} {st : Stmt} {rest body : List Stmt} {f g : Fs}
/-! ### for -/
def loopF (t : Tg) (f : Fs) : List D → Env → Option (Fl × Env)
  | [], ρ => some (.nx, ρ)
  | d :: ds, ρ => (bindT t (0, d) ρ).bind fun ρ1 => (f ρ1).bind fun p => match p.1 with
    | .nx => loopF t f ds p.2
    | .ct => loopF t f ds p.2
    | .bk => some (.nx, p.2)
    | .rt w => some (.rt w, p.2)
def sFor (it : Fit) (t : Tg) (f : Fs) : Fs := fun ρ => (it ρ).bind fun ds => loopF t f ds ρ
theorem s_for {iter : Expr} {it : Fit} {t : Tg} (hp : PassesOwn (model X.prog X.w) X.A X.env X.xe) (hc : X.calm = true) (hi : OkI X tg iter it) (hg : OkG X tg t) (hb : OkB X body f) (hs : ∀ x, foldedSetIterable iter X.env x = pure x := by exact fun _ => rfl) :
    OkS X (.For tg iter body [] pos) (sFor it t f) := PS.imp (ps_for hp hc hi hg hb hs) fun D σ H ⟨G0, ρ, fl, ρ', I, hf, post⟩ => by
  obtain ⟨ds, hds, hf⟩ := Option.bind_eq_some_iff.mp hf
  refine ⟨G0, ρ, ds, I, hds, fun J H1 G1 e01 I1 it => ?_⟩
  refine ⟨fun i m σ H => m = ds.length - i ∧ i ≤ ds.length ∧ ∃ ρi, SI X.K G1 σ ρi [] H ∧ loopF t f (ds.drop i) ρi = some (fl, ρ'), ⟨ds.length, by simp, Nat.zero_le _, ρ, I1, hf⟩, ?_⟩
  rintro i m σ2 H2 ⟨rfl, hi, ρi, Ii, hl⟩
  by_cases hlt : i < ds.length
  · obtain ⟨G, F1, F2, J2⟩ := Ii
    refine .inr ⟨it.goes i G H2 hlt ⟨J2.ex0, J2.ex⟩, ?_⟩
    rw [List.drop_eq_getElem_cons hlt] at hl
    obtain ⟨ρ1, hb1, hl⟩ := Option.bind_eq_some_iff.mp hl
    obtain ⟨⟨fl1, ρ2⟩, hb2, hl⟩ := Option.bind_eq_some_iff.mp hl
    refine ⟨fun σ H => ∃ ρi, SI X.K G1 σ ρi [] H ∧ loopF t f (ds.drop (i + 1)) ρi = some (fl, ρ'), fun σ' H' ⟨ρi, h1, h2⟩ => ⟨ds.length - (i + 1), by omega, rfl, hlt, ρi, h1, h2⟩, fun x H' y => ?_⟩
    obtain ⟨G', d, gr, hd, rd⟩ := it.yields i G H2 x H' hlt ⟨J2.ex0, J2.ex⟩ y
    have ed : d = ds[i] := by rw [List.getElem?_eq_getElem hlt] at hd; exact (Option.some.inj hd).symm
    subst ed
    have J3 := (J2.grow gr).pushF rd
    refine ⟨G1, ρi, [], 0, ds[i], ρ1, rfl, J3.SI, hb1, fun σ' _ I' => ⟨G1, ρ1, fl1, ρ2, I', hb2, ?_⟩⟩
    cases fl1 with
    | nx => exact fun σ H I => ⟨ρ2, I, hl⟩
    | ct => exact fun σ H I => ⟨ρ2, I, hl⟩
    | bk => cases hl; exact fun σ H I => post σ H (I.base e01)
    | rt w => cases hl; exact fun v H r => post v H (r.base e01)
  · have ei : i = ds.length := by omega
    subst ei
    rw [List.drop_length] at hl
    cases hl
    obtain ⟨G, F1, F2, J2⟩ := Ii
    exact .inl ⟨it.stops G H2 ⟨J2.ex0, J2.ex⟩, post σ2 H2 (J2.SI.base e01)⟩
/-! ### while -/
def loopW (T : Fb) (f : Fs) : Nat → Env → Option (Fl × Env)
  | 0, _ => none
  | n + 1, ρ => (T ρ).bind fun c => if c = true then (f ρ).bind fun p => match p.1 with
    | .nx => loopW T f n p.2
    | .ct => loopW T f n p.2
    | .bk => some (.nx, p.2)
    | .rt w => some (.rt w, p.2)
    else some (.nx, ρ)
def sWhile (n : Nat) (T : Fb) (f : Fs) : Fs := loopW T f n
theorem s_while {n : Nat} (hp : PassesOwn (model X.prog X.w) X.A X.env X.xe) (hc : OkT X c T) (hb : OkB X body f) : OkS X (.While c body [] pos) (sWhile n T f) := PS.imp (ps_while hp hc hb) fun D σ H ⟨G0, ρ, fl, ρ', I, hf, post⟩ => by
  refine ⟨fun m σ H => ∃ ρm, SI X.K G0 σ ρm [] H ∧ loopW T f m ρm = some (fl, ρ'), ⟨n, ρ, I, hf⟩, ?_⟩
  rintro m σ2 H2 ⟨ρm, Im, hl⟩
  cases m with
  | zero => cases hl
  | succ m =>
    obtain ⟨k, hk, hl⟩ := Option.bind_eq_some_iff.mp hl
    refine ⟨G0, ρm, [], k, Im, hk, fun H3 I3 => ?_⟩
    cases k with
    | false =>
      rw [if_neg Bool.false_ne_true] at hl ⊢
      cases hl
      exact post σ2 H3 I3
    | true =>
      rw [if_pos rfl] at hl ⊢
      obtain ⟨⟨fl1, ρ2⟩, hb2, hl⟩ := Option.bind_eq_some_iff.mp hl
      refine ⟨fun σ H => ∃ ρm, SI X.K G0 σ ρm [] H ∧ loopW T f m ρm = some (fl, ρ'), fun σ' H' h => ⟨m, Nat.lt_succ_self m, h⟩, G0, ρm, fl1, ρ2, I3, hb2, ?_⟩
      cases fl1 with
      | nx => exact fun σ H I => ⟨ρ2, I, hl⟩
      | ct => exact fun σ H I => ⟨ρ2, I, hl⟩
      | bk => cases hl; exact fun σ H I => post σ H I
      | rt w => cases hl; exact fun v H r => post v H r
/-! ### what is walked -/
theorem Items.listF {a : Addr} {ds : List D} {xs : List V} {G1 : Hp} (h : G1 a = some (.lst xs)) (r : RepFs K G1 ds xs) : Items K (Itl K a) ds (fun G H => Same G1 G ∧ Same G H) where
  goes := fun i G H hi ⟨e1, e2⟩ => ⟨xs, xs[i]'(by rw [r.len]; exact hi), SqL.of (e2 _ _ (e1 _ _ h)), by simp [r.len, hi]⟩
  stops := fun G H ⟨e1, e2⟩ => ⟨xs, SqL.of (e2 _ _ (e1 _ _ h)), by rw [r.len]; exact Nat.le_refl _⟩
  yields := fun i G H x H' hi ⟨e1, e2⟩ ⟨hy, hx⟩ => by
    subst hy
    obtain ⟨z, h1, h2⟩ := (RepFs.mono e1 _ _ r).get (List.getElem?_eq_getElem hi)
    have := hx xs (SqL.of (e2 _ _ (e1 _ _ h)))
    rw [h1] at this
    cases this
    exact ⟨G, ds[i], Grow.refl e2, List.getElem?_eq_getElem hi, h2⟩
theorem Items.tupF {a : Addr} {ds : List D} {xs : List V} {G1 : Hp} (h : SqT K G1 a xs) (r : RepFs K G1 ds xs) : Items K (Itt K a) ds (fun G H => Same G1 G ∧ Same G H) where
  goes := fun i G H hi ⟨e1, e2⟩ => ⟨xs, xs[i]'(by rw [r.len]; exact hi), same_t e2 (same_t e1 h), by simp [r.len, hi]⟩
  stops := fun G H ⟨e1, e2⟩ => ⟨xs, same_t e2 (same_t e1 h), by rw [r.len]; exact Nat.le_refl _⟩
  yields := fun i G H x H' hi ⟨e1, e2⟩ ⟨hy, hx⟩ => by
    subst hy
    obtain ⟨z, h1, h2⟩ := (RepFs.mono e1 _ _ r).get (List.getElem?_eq_getElem hi)
    have := hx xs (same_t e2 (same_t e1 h))
    rw [h1] at this
    cases this
    exact ⟨G, ds[i], Grow.refl e2, List.getElem?_eq_getElem hi, h2⟩
theorem Items.mono {J : It} {ds : List D} {P P' : Hp → Hp → Prop} (i : Items K J ds P) (h : ∀ G H, P' G H → P G H) : Items K J ds P' :=
  ⟨fun k G H hk p => i.goes k G H hk (h G H p), fun G H p => i.stops G H (h G H p), fun k G H x H' hk p y => i.yields k G H x H' hk (h G H p) y⟩
theorem Items.toC {J : It} {ds : List D} {G1 : Hp} (i : Items K J ds (fun G H => Same G1 G ∧ Same G H)) : Items K J ds (fun G H => ∃ ws' F1 F2, Si K G1 σ ρ ws' H G F1 F2) :=
  i.mono fun G H ⟨_, _, _, I⟩ => ⟨I.ex0, I.ex⟩
/-- a frozen list or tuple, or a new one -/
def iVal (A : Fe) : Fit := fun ρ => (A ρ).bind fun a => match a with
  | .v _ (.lst ds) => some ds
  | _ => none
def iValT (A : Fe) : Fit := fun ρ => (val A ρ).bind fun w => match w.2 with
  | .tup ds => some ds
  | .ktp ds => some ds
  | _ => none
theorem i_list (h : OkE X e A) : OkI X tg e (iVal A) := PI.imp (pi_list h) fun σ H R ⟨G0, ρ, ds, I, hf, q⟩ => by
  obtain ⟨a, ha, hf⟩ := Option.bind_eq_some_iff.mp hf
  split at hf
  · rename_i k ds'
    cases hf
    refine ⟨G0, ρ, [], _, I, ha, fun v H1 I1 => ?_⟩
    obtain ⟨G, F1, F2, J⟩ := I1
    obtain ⟨G1, F2', J1, e1, r1⟩ := J.freeze
    obtain ⟨p, xs, rfl, h1, h2⟩ := r1
    exact ⟨p, rfl, ⟨xs, SqL.of (J1.ex _ _ h1)⟩, q _ H1 G1 J1.ex0 J1.up (Items.listF h1 h2)⟩
  · cases hf
theorem tupK_rep {k : Nat} {d : D} {ds : List D} {v : V} {F : List Addr} (h : (match d with | .tup ds => some ds | .ktp ds => some ds | _ => none) = some ds) (r : RO K G H k d v F) : ∃ a xs, v = .ref a ∧ SqT K G a xs ∧ RepFs K G ds xs := by
  cases d <;> first | (cases h; done) | skip
  · cases h; exact r.tup
  · cases h; obtain ⟨a, xs, h1, h2, h3⟩ := r.ktp; exact ⟨a, xs, h1, h2.sq, h3⟩
theorem i_tup (h : OkE X e A) : OkI X tg e (iValT A) := PI.imp (pi_tup h) fun σ H R ⟨G0, ρ, ds, I, hf, q⟩ => by
  obtain ⟨w, hw, hf⟩ := Option.bind_eq_some_iff.mp hf
  obtain ⟨a, ha, hg⟩ := val_some hw
  refine ⟨G0, ρ, [], a, I, ha, fun v H1 I1 => ?_⟩
  obtain ⟨G, F1, F2, J⟩ := I1
  obtain ⟨Fx, rx⟩ := J.top hg
  obtain ⟨p, xs, rfl, h1, h2⟩ := tupK_rep hf rx
  obtain ⟨F2', _, J'⟩ := J.drop
  exact ⟨p, rfl, ⟨xs, same_t J.ex h1⟩, q _ H1 G J'.ex0 J'.up (Items.tupF h1 h2)⟩
def rngD (lo : Int) (n : Nat) : List D := (List.range n).map fun i => .int (lo + (i : Nat))
theorem Items.rng {lo : Int} {n : Nat} {G1 : Hp} : Items K (Itr lo n) (rngD lo n) (fun G H => Same G1 G ∧ Same G H) where
  goes := fun i G H hi _ => by
    have : (rngD lo n).length = n := by simp [rngD]
    rw [this] at hi; exact hi
  stops := fun G H _ => by
    have : (rngD lo n).length = n := by simp [rngD]
    rw [this]; exact Nat.le_refl n
  yields := fun i G H x H' hi ⟨e1, e2⟩ ⟨hy, hx⟩ => by
    have : (rngD lo n).length = n := by simp [rngD]
    rw [this] at hi
    subst hy hx
    exact ⟨G, .int (lo + (i : Nat)), Grow.refl e2, by simp [rngD, hi], rfl⟩
theorem val1 {f : Fe} {G0 : Hp} {ρ : Env} {Q : List V → Hp → Prop} {w : W} (I : SI K G0 σ ρ ws H) (hv : val f ρ = some w) (q : ∀ v H1 G F1 F2 Fx, Si K G0 σ ρ ws H1 G F1 F2 → RO K G H1 w.1 w.2 v Fx → Q [v] H1) : tA K (aCons f aNil) σ H Q := by
  obtain ⟨a, ha, hg⟩ := val_some hv
  refine ⟨G0, ρ, ws, [a], I, by simp [aCons, aNil, ha], fun vs H1 hl I1 => ?_⟩
  match vs, hl, I1 with
  | [v], _, I1 =>
    obtain ⟨G, F1, F2, J⟩ := I1
    obtain ⟨Fx, rx⟩ := Si.top (ws := ws) J hg
    obtain ⟨F2', _, J'⟩ := Si.drop (ws := ws) J
    exact q v H1 G F1 F2' Fx J' rx
theorem val2 {f g : Fe} {G0 : Hp} {ρ : Env} {Q : List V → Hp → Prop} {w u : W} (I : SI K G0 σ ρ ws H) (hv : val f ρ = some w) (hu : val g ρ = some u)
    (q : ∀ v y H1 G F1 F2 Fx Fy, Si K G0 σ ρ ws H1 G F1 F2 → RO K G H1 w.1 w.2 v Fx → RO K G H1 u.1 u.2 y Fy → Q [v, y] H1) : tA K (aCons f (aCons g aNil)) σ H Q := by
  obtain ⟨a, ha, hg⟩ := val_some hv
  obtain ⟨b, hb, hgb⟩ := val_some hu
  refine ⟨G0, ρ, ws, [a, b], I, by simp [aCons, aNil, ha, hb], fun vs H1 hl I1 => ?_⟩
  match vs, hl, I1 with
  | [v, y], _, I1 =>
    obtain ⟨G, F1, F2, J⟩ := I1
    obtain ⟨Fx, rx⟩ := Si.top (ws := (v, a) :: ws) J hgb
    obtain ⟨F2', _, J'⟩ := Si.drop (ws := (v, a) :: ws) J
    obtain ⟨Fy, ry⟩ := Si.top (ws := ws) J' hg
    obtain ⟨F3', _, J''⟩ := Si.drop (ws := ws) J'
    exact q v y H1 G F1 F3' Fy Fx J'' ry rx
/-- range(n), range(a, b) -/
def iRange1 (A : Fe) : Fit := fun ρ => (val A ρ).bind fun w => match w.2 with
  | .int n => if -1000000000 ≤ n ∧ n ≤ 1000000000 then some (rngD 0 n.toNat) else none
  | _ => none
theorem i_range1 {p : Pos} (hg : Gl X "range") (hm : X.mg "range" = none) (ha : OkE X a A) (hs : starEach [a] X.env = [(false, eval a X.env)] := by rfl) : OkI X tg (.Call (.Name "range" p) [a] [] pos) (iRange1 A) :=
  PI.imp (pi_range1 (ta := tA X.K (aCons A aNil)) hg hm (a_cons ha a_nil hs) hs) fun σ H R ⟨G0, ρ, ds, I, hf, q⟩ => by
  obtain ⟨w, hw, hf⟩ := Option.bind_eq_some_iff.mp hf
  obtain ⟨k, d⟩ := w
  cases d <;> first | (cases hf; done) | skip
  rename_i n
  simp only at hf
  split at hf
  · rename_i hn
    cases hf
    refine val1 I hw fun v H1 G F1 F2 Fx J rx => ?_
    obtain rfl := rx.int
    exact ⟨n, rfl, by omega, by omega, q _ H1 G J.ex0 J.up Items.rng⟩
  · cases hf
def iRange2 (A B : Fe) : Fit := fun ρ => (val A ρ).bind fun w => (val B ρ).bind fun u => match w.2, u.2 with
  | .int m, .int n => if (-1000000000 ≤ m ∧ m ≤ 1000000000) ∧ -1000000000 ≤ n ∧ n ≤ 1000000000 then some (rngD m (n - m).toNat) else none
  | _, _ => none
theorem i_range2 {p : Pos} (hg : Gl X "range") (hm : X.mg "range" = none) (ha : OkE X a A) (hb : OkE X b B) (hs : starEach [a, b] X.env = [(false, eval a X.env), (false, eval b X.env)] := by rfl) (hs2 : starEach [b] X.env = [(false, eval b X.env)] := by rfl) :
    OkI X tg (.Call (.Name "range" p) [a, b] [] pos) (iRange2 A B) :=
  PI.imp (pi_range2 (ta := tA X.K (aCons A (aCons B aNil))) hg hm (a_cons ha (a_cons hb a_nil hs2) (by rw [hs, hs2])) hs hs2) fun σ H R ⟨G0, ρ, ds, I, hf, q⟩ => by
  obtain ⟨w, hw, hf⟩ := Option.bind_eq_some_iff.mp hf
  obtain ⟨u, hu, hf⟩ := Option.bind_eq_some_iff.mp hf
  obtain ⟨k, d⟩ := w
  obtain ⟨l, c⟩ := u
  cases d <;> first | (cases hf; done) | skip
  cases c <;> first | (cases hf; done) | skip
  simp only at hf
  split at hf
  · rename_i hn
    cases hf
    refine val2 I hw hu fun v y H1 G F1 F2 Fx Fy J rx ry => ?_
    obtain rfl := rx.int
    obtain rfl := ry.int
    exact ⟨_, _, rfl, ⟨by omega, by omega, by omega, by omega⟩, q _ H1 G J.ex0 J.up Items.rng⟩
  · cases hf
end
end Pv
set_option Elab.async false
set_option linter.all false
set_option maxRecDepth 100000
/-! P8: comprehensions -/
namespace Pv
open PySem PySem.Spec PyProof.Rows L2
section
variable {X : Cx} {K : PySem.W.Frag} {G0 G G1 G' G4 H H' H4 : Hp} {σ : L2.St} {ρ : Env} {ws : List (V × Arg)} {F1 F2 : List Addr} {e a b c tg : Expr} {es : List Expr} {pos : Pos} {A B C : Fe} {T : Fb} {st : Stmt} {rest body : List Stmt} {f g : Fs}
def plain0 (o : Option (Option W)) : Prop := ∀ w, o = some (some w) → w.1 = 0 ∨ isBox w.2 = false
theorem RO.plain0 {w : W} {v : V} {F : List Addr} (h : w.1 = 0 ∨ isBox w.2 = false) (r : RO K G H w.1 w.2 v F) : RepF K G w.2 v ∧ F = [] := by
  obtain ⟨k, d⟩ := w
  rcases h with h | h
  · simp only at h; subst h; exact r
  · exact r.plain h
theorem RO.of_plain {w : W} {v : V} (h : w.1 = 0 ∨ isBox w.2 = false) (r : RepF K G w.2 v) : RO K G H w.1 w.2 v [] := by
  obtain ⟨k, d⟩ := w
  rcases h with h | h
  · simp only at h; subst h; exact ⟨r, rfl⟩
  · cases k with
    | zero => exact ⟨r, rfl⟩
    | succ k => cases d <;> first | exact ⟨r, rfl⟩ | cases h
theorem RSl.merge (e : Same G G4) : ∀ (σ : L2.St) (ρ : Env) (σ2 : L2.St) (ρ2 : Env) (P : Nat → Prop) (F F2 : List Addr), RSl K G H σ ρ F → RSl K G4 H4 σ2 ρ2 F2 → σ.length = ρ.length → ρ2.length = ρ.length → σ2.length = σ.length →
    (∀ j, P j → Pv.plain0 ρ[j]? ∧ Pv.plain0 ρ2[j]?) → (∀ j, ¬ P j → ρ2[j]? = ρ[j]? ∧ σ2[j]? = σ[j]?) → RSl K G4 H4 σ ρ F2
  | [], [], σ2, ρ2, P, F, F2, h, h2, l1, l2, l3, _, _ => by
    obtain rfl := List.eq_nil_of_length_eq_zero (show ρ2.length = 0 from l2)
    obtain rfl := List.eq_nil_of_length_eq_zero (show σ2.length = 0 from l3)
    exact h2
  | [], _ :: _, _, _, _, _, _, _, _, l1, _, _, _, _ => by simp at l1
  | _ :: _, [], _, _, _, _, _, _, _, l1, _, _, _, _ => by simp at l1
  | s :: σ, r :: ρ, [], _, _, _, _, _, _, _, _, l3, _, _ => by simp at l3
  | s :: σ, r :: ρ, _ :: _, [], _, _, _, _, _, _, l2, _, _, _ => by simp at l2
  | s :: σ, r :: ρ, s2 :: σ2, r2 :: ρ2, P, F, F2, h, h2, l1, l2, l3, p1, p2 => by
    have ih := RSl.merge e σ ρ σ2 ρ2 (fun j => P (j + 1))
    have l1' : σ.length = ρ.length := by simpa using l1
    have l2' : ρ2.length = ρ.length := by simpa using l2
    have l3' : σ2.length = σ.length := by simpa using l3
    have p1' : ∀ j, P (j + 1) → Pv.plain0 ρ[j]? ∧ Pv.plain0 ρ2[j]? := fun j h => by simpa using p1 (j + 1) h
    have p2' : ∀ j, ¬ P (j + 1) → ρ2[j]? = ρ[j]? ∧ σ2[j]? = σ[j]? := fun j h => by simpa using p2 (j + 1) h
    by_cases hP : P 0
    · obtain ⟨q1, q2⟩ := p1 0 hP
      -- the tail's footprint
      have tail2 : RSl K G4 H4 σ2 ρ2 F2 := by
        cases r2 with
        | none => exact h2
        | some w2 =>
          obtain ⟨v, Fa, Fb, e1, e2, e3, e4⟩ := h2
          have := (e3.plain0 (q2 w2 rfl)).2
          subst this
          rw [e2]; exact e4
      cases r with
      | none => exact ih F F2 h tail2 l1' l2' l3' p1' p2'
      | some w =>
        obtain ⟨v, Fa, Fb, e1, e2, e3, e4⟩ := h
        have pl := q1 w rfl
        exact ⟨v, [], F2, e1, rfl, RO.of_plain pl (RepF.mono e _ _ (e3.plain0 pl).1), ih Fb F2 e4 tail2 l1' l2' l3' p1' p2'⟩
    · obtain ⟨q1, q2⟩ := p2 0 hP
      have q1' : r2 = r := by simpa using q1
      have q2' : s2 = s := by simpa using q2
      subst q1' q2'
      cases r2 with
      | none => exact ih F F2 h h2 l1' l2' l3' p1' p2'
      | some w =>
        obtain ⟨v, Fa, Fb, e1, e2, e3, e4⟩ := h
        obtain ⟨v2, Fc, Fd, e5, e6, e7, e8⟩ := h2
        exact ⟨v2, Fc, Fd, e5, e6, e7, ih Fb Fd e4 e8 l1' l2' l3' p1' p2'⟩
/-- without what stands in slots -/
def strip : List (V × Arg) → List (V × Arg)
  | [] => []
  | (x, .v k d) :: ws => (x, .v k d) :: strip ws
  | (_, .r _) :: ws => strip ws
theorem noRef_strip : ∀ ws, noRef (strip ws) = true
  | [] => rfl
  | (x, .v k d) :: ws => noRef_strip ws
  | (_, .r _) :: ws => noRef_strip ws
theorem RWs.strip {σ2 : L2.St} {ρ2 : Env} : ∀ {ws : List (V × Arg)} {F : List Addr}, RWs K G H σ ρ ws F → RWs K G H σ2 ρ2 (strip ws) F
  | [], _, h => h
  | (x, .v k d) :: ws, F, ⟨F1, F2, h2, h3, h4⟩ => ⟨F1, F2, h2, h3, RWs.strip (ws := ws) h4⟩
  | (x, .r i) :: ws, F, ⟨h1, h2, h3⟩ => RWs.strip (ws := ws) h3
theorem RWs.unstrip {σ2 : L2.St} {ρ2 : Env} : ∀ {pre ws : List (V × Arg)} {F F0 : List Addr}, noRef pre = true → RWs K G H σ ρ ws F0 → RWs K G4 H4 σ2 ρ2 (pre ++ Pv.strip ws) F → RWs K G4 H4 σ ρ (pre ++ ws) F
  | (x, .v k d) :: pre, ws, F, F0, n, h, ⟨F1, F2, h2, h3, h4⟩ => ⟨F1, F2, h2, h3, RWs.unstrip (pre := pre) n h h4⟩
  | (x, .r i) :: pre, ws, F, F0, n, h, _ => by cases n
  | [], [], F, F0, _, _, h => h
  | [], (x, .v k d) :: ws, F, F0, _, ⟨_, _, _, _, h⟩, ⟨F1, F2, h2, h3, h4⟩ => ⟨F1, F2, h2, h3, RWs.unstrip (pre := []) rfl h h4⟩
  | [], (x, .r i) :: ws, F, F0, _, ⟨g1, g2, h⟩, h4 => ⟨g1, g2, RWs.unstrip (pre := []) rfl h h4⟩
def wipeE (ρ : Env) : List Nat → Env
  | [] => ρ
  | v :: vs => (wipeE ρ vs).set v none
theorem wipeE_len (ρ : Env) : ∀ vs, (wipeE ρ vs).length = ρ.length
  | [] => rfl
  | v :: vs => by show ((wipeE ρ vs).set v none).length = _; rw [List.length_set, wipeE_len ρ vs]
theorem wipeE_out {ρ : Env} {j : Nat} : ∀ {vs : List Nat}, j ∉ vs → (wipeE ρ vs)[j]? = ρ[j]?
  | [], _ => rfl
  | v :: vs, h => by
    simp only [List.mem_cons, not_or] at h
    show ((wipeE ρ vs).set v none)[j]? = _
    rw [List.getElem?_set_ne (Ne.symm h.1), wipeE_out h.2]
theorem wipeE_in {ρ : Env} {j : Nat} : ∀ {vs : List Nat}, j ∈ vs → plain0 (wipeE ρ vs)[j]?
  | [], h => by cases h
  | v :: vs, h => fun w e => by
    by_cases hv : v = j
    · subst hv
      have e' : ((wipeE ρ vs).set v none)[v]? = some (some w) := e
      rw [List.getElem?_set] at e'
      simp at e'
    · have hj : j ∈ vs := by
        rcases List.mem_cons.mp h with q | q
        · exact absurd q.symm hv
        · exact q
      have e' : ((wipeE ρ vs).set v none)[j]? = some (some w) := e
      rw [List.getElem?_set_ne hv] at e'
      exact wipeE_in hj w e'
theorem wipe_out {σ : L2.St} {j : Nat} : ∀ {vs : List Nat}, j ∉ vs → (wipe σ vs)[j]? = σ[j]?
  | [], _ => rfl
  | v :: vs, h => by
    simp only [List.mem_cons, not_or] at h
    show ((wipe σ vs).set v none)[j]? = _
    rw [List.getElem?_set_ne (Ne.symm h.1), wipe_out h.2]
theorem wipe_in {σ : L2.St} {j : Nat} : ∀ {vs : List Nat}, j ∈ vs → j < σ.length → (wipe σ vs)[j]? = some none
  | [], h, _ => by cases h
  | v :: vs, h, hl => by
    show ((wipe σ vs).set v none)[j]? = _
    by_cases hv : v = j
    · subst hv
      rw [List.getElem?_set_self (by rw [wipe_length]; exact hl)]
    · rw [List.getElem?_set_ne hv]
      rcases List.mem_cons.mp h with q | q
      · exact absurd q.symm hv
      · exact wipe_in q hl
theorem wipe_but {σ σ' : L2.St} {S vs : List Nat} (h : But S (wipe σ vs) σ') (hs : ∀ i ∈ S, i ∈ vs) : wipe σ' vs = wipe σ vs := by
  have hl : σ'.length = σ.length := by rw [h.1, wipe_length]
  refine List.ext_getElem? fun j => ?_
  by_cases hj : j ∈ vs
  · by_cases hlt : j < σ.length
    · rw [wipe_in hj hlt, wipe_in hj (by rw [hl]; exact hlt)]
    · rw [List.getElem?_eq_none (by rw [wipe_length]; omega), List.getElem?_eq_none (by rw [wipe_length]; omega)]
  · rw [wipe_out hj, h.2 j (fun z => hj (hs j z)), wipe_out hj]
theorem RSl.wiped {vs : List Nat} : ∀ (σ : L2.St) (ρ : Env) (F : List Addr), RSl K G H σ ρ F → σ.length = ρ.length → (∀ j ∈ vs, plain0 ρ[j]?) → RSl K G H (wipe σ vs) (wipeE ρ vs) F := by
  intro σ ρ F h hl hp
  -- one slot
  have one : ∀ (σ : L2.St) (ρ : Env) (F : List Addr) (i : Nat), RSl K G H σ ρ F → σ.length = ρ.length → plain0 ρ[i]? → RSl K G H (σ.set i none) (ρ.set i none) F := by
    intro σ ρ F i h hl hp
    by_cases hi : i < ρ.length
    · obtain ⟨Fa, Fi, Fb, e1, e2, e2', e3⟩ := RSl.zoom σ ρ F i h hi (by rw [hl]; exact hi)
      have hF : Fi = [] := by
        cases q : ρ[i]'hi with
        | none => exact e2' (by rw [List.getElem?_eq_getElem hi, q])
        | some w =>
          have q' : ρ[i]? = some (some w) := by rw [List.getElem?_eq_getElem hi, q]
          obtain ⟨v, _, r⟩ := e2 w q'
          exact (r.plain0 (hp w q')).2
      subst hF
      have := e3 G H none none [] (Same.refl _) (fun _ _ => rfl) (fun w e => by cases e) (fun _ => rfl)
      rw [e1]; exact this
    · rw [List.set_eq_of_length_le (by omega), List.set_eq_of_length_le (by omega)]; exact h
  have all : ∀ us : List Nat, (∀ j ∈ us, j ∈ vs) → RSl K G H (wipe σ us) (wipeE ρ us) F := by
    intro us
    induction us with
    | nil => intro _; exact h
    | cons u us ih =>
      intro hu
      refine one _ _ F u (ih fun j hj => hu j (List.mem_cons_of_mem _ hj)) (by rw [wipe_length, wipeE_len]; exact hl) ?_
      by_cases q : u ∈ us
      · exact wipeE_in q
      · rw [wipeE_out q]; exact hp u (hu u List.mem_cons_self)
  exact all vs fun _ h => h
mutual
theorem bindT_but : ∀ (t : Tg) (w : W) (ρ ρ' : Env), bindT t w ρ = some ρ' → ρ'.length = ρ.length ∧ (∀ j : Nat, j ∉ slotsT t → ρ'[j]? = ρ[j]?) ∧ (w.1 = 0 → ∀ j : Nat, plain0 ρ[j]? → plain0 ρ'[j]?)
  | .nm i, w, ρ, ρ', h => by
    unfold bindT at h
    split at h
    · rename_i hi
      cases h
      refine ⟨List.length_set, fun j hj => ?_, fun hw j hp => ?_⟩
      · have : j ≠ i := by simpa [slotsT] using hj
        rw [List.getElem?_set_ne (Ne.symm this)]
      · by_cases hj : i = j
        · subst hj
          rw [List.getElem?_set_self hi]
          intro w' e
          cases e
          exact .inl hw
        · rw [List.getElem?_set_ne hj]; exact hp
    · cases h
  | .tp ts, w, ρ, ρ', h => by
    unfold bindT at h
    split at h
    · split at h
      · obtain ⟨h1, h2, h3⟩ := bindTs_but ts _ ρ ρ' h
        exact ⟨h1, h2, fun _ => h3⟩
      · cases h
    · cases h
theorem bindTs_but : ∀ (ts : List Tg) (ds : List D) (ρ ρ' : Env), bindTs ts ds ρ = some ρ' → ρ'.length = ρ.length ∧ (∀ j : Nat, j ∉ slotsTs ts → ρ'[j]? = ρ[j]?) ∧ (∀ j : Nat, plain0 ρ[j]? → plain0 ρ'[j]?)
  | [], ds, ρ, ρ', h => by
    have : ρ = ρ' := by simpa [bindTs] using h
    subst this
    exact ⟨rfl, fun _ _ => rfl, fun _ h => h⟩
  | t :: ts, [], ρ, ρ', h => by cases h
  | t :: ts, d :: ds, ρ, ρ', h => by
    obtain ⟨ρ1, h1, h2⟩ := Option.bind_eq_some_iff.mp h
    obtain ⟨a1, a2, a3⟩ := bindT_but t (0, d) ρ ρ1 h1
    obtain ⟨b1, b2, b3⟩ := bindTs_but ts ds ρ1 ρ' h2
    refine ⟨b1.trans a1, fun j hj => ?_, fun j hp => b3 j (a3 rfl j hp)⟩
    simp only [slotsTs, List.mem_append, not_or] at hj
    rw [b2 j hj.2, a2 j hj.1]
end
/-! ### list comprehensions -/
def lvlOk (j k : Nat) (d : D) : Bool := (j == 0) || (k == j) || !isBox d
def compL (t : Tg) (T : Fb) (A : Fe) (j : Nat) (ρ : Env) : List D → Option (List D)
  | [] => some []
  | d :: ds => (bindT t (0, d) ρ).bind fun ρ1 => (T ρ1).bind fun b => if b = true then (A ρ1).bind fun a => match a with
      | .v k x => if lvlOk j k x = true then (compL t T A j ρ ds).map fun r => x :: r else none
      | .r _ => none
    else compL t T A j ρ ds
def lvl0 (o : Option (Option W)) : Bool := match o with
  | some (some w) => (w.1 == 0) || !isBox w.2
  | _ => true
theorem lvl0_plain {o : Option (Option W)} (h : lvl0 o = true) : plain0 o := fun w e => by
  subst e
  simpa [lvl0] using h
def pLc (j : Nat) (it : Fit) (t : Tg) (vs : List Nat) (T : Fb) (A : Fe) : Fe := fun ρ => if (vs.all fun v => lvl0 ρ[v]?) = true then (it ρ).bind fun ds => if ds.length ≤ big then (compL t T A j (wipeE ρ vs) ds).map fun out => .v (j + 1) (.lst out) else none else none
def OkTs (X : Cx) (ifs : List Expr) (T : Fb) : Prop := PTs X ifs (tT X.K T)
def bYes : Fb := fun _ => some true
theorem PTs.imp {X : Cx} {e : List Expr} {t t' : TT} (h : PTs X e t) (i : ∀ σ H Q, t' σ H Q → t σ H Q) : PTs X e t' := ⟨fun pins s σ H Q I q => h.run pins s σ H Q I (i σ H Q q)⟩
theorem ts_nil : OkTs X [] bYes := PTs.imp pts_nil fun σ H Q ⟨G0, ρ, ws, b, I, hf, q⟩ => by cases hf; exact q H I
theorem ts_one (h : OkT X c T) : OkTs X [c] T := pts_one h
theorem compL_len {t : Tg} {T : Fb} {A : Fe} {j : Nat} {ρ : Env} : ∀ {ds out : List D}, compL t T A j ρ ds = some out → out.length ≤ ds.length
  | [], out, h => by cases h; exact Nat.le_refl _
  | d :: ds, out, h => by
    obtain ⟨ρ1, _, h⟩ := Option.bind_eq_some_iff.mp h
    obtain ⟨b, _, h⟩ := Option.bind_eq_some_iff.mp h
    split at h
    · obtain ⟨a, _, h⟩ := Option.bind_eq_some_iff.mp h
      split at h
      · split at h
        · obtain ⟨r, hr, rfl⟩ := Option.map_eq_some_iff.mp h
          exact Nat.succ_le_succ (compL_len hr)
        · cases h
      · cases h
    · exact Nat.le_succ_of_le (compL_len h)
/-- the item made waits ahead of the list made: it goes into it -/
theorem Si.addItem {D : Addr} {j k : Nat} {acc : List Pv.D} {x : Pv.D} {y : V} (ok : lvlOk j k x = true) (I : Si K G0 σ ρ ((y, .v k x) :: (.ref D, .v (j + 1) (.lst acc)) :: ws) H G F1 F2) :
    ∃ xs, H D = some (.lst xs) ∧ xs.length = acc.length ∧ Pv.SI K G0 σ ρ ((.ref D, .v (j + 1) (.lst (acc ++ [x]))) :: ws) (upd H D (.lst (xs ++ [y]))) := by
  -- what the item is, at the list's depth
  have key : ∃ G1 Fy F2', Same G G1 ∧ Same G1 H ∧ RO K G1 H j x y Fy ∧ (∀ b o, H b = some o → ¬ isOwn o → G1 b = some o) ∧ Same G0 G1 ∧ RSl K G1 H σ ρ F1 ∧ RWs K G1 H σ ρ ((.ref D, .v (j + 1) (.lst acc)) :: ws) F2' ∧ (F1 ++ (Fy ++ F2')).Nodup ∧ ∀ b ∈ F1 ++ (Fy ++ F2'), G1 b = none := by
    unfold lvlOk at ok
    by_cases h0 : j = 0
    · subst h0
      obtain ⟨G1, F2', J, e, r⟩ := I.freeze
      exact ⟨G1, [], F2', e, J.ex, ⟨r, rfl⟩, J.tu, J.ex0, J.sl, J.wv, J.nd, J.fr⟩
    · obtain ⟨Fy, F2', e2, r, wv⟩ := I.wv
      subst e2
      by_cases hk : k = j
      · subst hk
        exact ⟨G, Fy, F2', Same.refl _, I.ex, r, I.tu, I.ex0, I.sl, wv, I.nd, I.fr⟩
      · have nb : isBox x = false := by simpa [h0, hk] using ok
        obtain ⟨r1, hF⟩ := r.plain nb
        subst hF
        exact ⟨G, [], F2', Same.refl _, I.ex, RO.of_plain (w := (j, x)) (.inr nb) r1, I.tu, I.ex0, I.sl, wv, I.nd, I.fr⟩
  obtain ⟨G1, Fy, F2', e, ex, ry, tu, ex0, sl, wv, nd, fr⟩ := key
  obtain ⟨Fl, Fw, e2, ⟨D', xs, Fi, h1, h2, h3, h4⟩, hw⟩ := wv
  cases h1
  subst h3 e2
  refine ⟨xs, h2, h4.len, ?_⟩
  have nd' := nd
  simp only [List.nodup_append, List.mem_append, List.nodup_cons, List.mem_cons, List.cons_append] at nd'
  obtain ⟨n1, ⟨n2, ⟨n3, n4, n5, n6⟩, n7⟩, n8⟩ := nd'
  have ne : ∀ b, b ∈ F1 ∨ b ∈ Fy ∨ b ∈ Fi ∨ b ∈ Fw → (upd H D (.lst (xs ++ [y]))) b = H b := fun b hb => upd_ne fun z => by
    subst z
    rcases hb with hb | hb | hb | hb
    · exact n8 b hb b (.inr (.inl rfl)) rfl
    · exact n7 b hb b (.inl rfl) rfl
    · exact n3 (.inl hb)
    · exact n3 (.inr hb)
  have snoc : ∀ (ds : List Pv.D) (us : List V) (Fa : List Addr), ROs (RO K G1 H j) ds us Fa → ROs (RO K G1 H j) (ds ++ [x]) (us ++ [y]) (Fa ++ Fy) := by
    intro ds
    induction ds with
    | nil =>
      intro us Fa ⟨q1, q2⟩
      subst q1 q2
      exact ⟨y, [], Fy, [], rfl, by simp, ry, rfl, rfl⟩
    | cons d ds ih =>
      intro us Fa ⟨u, r, Fc, Fd, q1, q2, q3, q4⟩
      subst q1 q2
      exact ⟨u, r ++ [y], Fc, Fd ++ Fy, rfl, by simp [List.append_assoc], q3, ih r Fd q4⟩
  have hD1 : G1 D = none := fr D (by simp)
  refine ⟨G1, F1, (D :: (Fi ++ Fy)) ++ Fw, ex0, fun b o q => ?_, RSl.mono (Same.refl _) _ _ _ (fun b hb => ne b (.inl hb)) sl, ⟨D :: (Fi ++ Fy), Fw, rfl, ⟨D, xs ++ [y], Fi ++ Fy, rfl, upd_same, rfl, ?_⟩, RWs.mono (Same.refl _) _ _ (fun b hb => ne b (.inr (.inr (.inr hb)))) hw⟩, ?_, fun b hb => ?_, fun b o q1 q2 => ?_, I.ln⟩
  · rw [upd_ne (ne_of_none q hD1)]; exact ex b o q
  · exact ROs.imp _ _ _ (fun d v F sub r => RO.mono (Same.refl _) _ _ _ _ (fun b hb => ne b (by
      rcases List.mem_append.mp (sub b hb) with z | z
      · exact .inr (.inr (.inl z))
      · exact .inr (.inl z))) r) (snoc acc xs Fi h4)
  · simp only [List.nodup_append, List.nodup_cons, List.mem_append, List.mem_cons, List.cons_append]
    refine ⟨n1, ⟨fun z => ?_, ⟨n4, n2, fun p hp q hq e => ?_⟩, n5, fun p hp q hq e => ?_⟩, fun p hp q hq e => ?_⟩
    · rcases z with (z | z) | z
      · exact n3 (.inl z)
      · exact n7 D z D (.inl rfl) rfl
      · exact n3 (.inr z)
    · subst e; exact n7 p hq p (.inr (.inl hp)) rfl
    · subst e
      rcases hp with hp | hp
      · exact n6 p hp p hq rfl
      · exact n7 p hp p (.inr (.inr hq)) rfl
    · subst e
      rcases hq with hq | (hq | hq) | hq
      · exact n8 p hp p (.inr (.inl hq)) rfl
      · exact n8 p hp p (.inr (.inr (.inl hq))) rfl
      · exact n8 p hp p (.inl hq) rfl
      · exact n8 p hp p (.inr (.inr (.inr hq))) rfl
  · apply fr
    simp only [List.mem_append, List.mem_cons, List.cons_append] at hb ⊢
    rcases hb with hb | hb | (hb | hb) | hb
    · exact .inl hb
    · exact .inr (.inr (.inl hb))
    · exact .inr (.inr (.inr (.inl hb)))
    · exact .inr (.inl hb)
    · exact .inr (.inr (.inr (.inr hb)))
  · by_cases hb : b = D
    · subst hb; rw [upd_same] at q1; cases q1; exact absurd trivial q2
    · rw [upd_ne hb] at q1; exact tu b o q1 q2
/-- back from the block -/
theorem Si.unwipe {σ2 : L2.St} {ρ2 : Env} {vs : List Nat} {pre : List (V × Arg)} {F3 F4 : List Addr} (J : Si K G1 σ ρ ws H G F1 F2) (I : Si K G σ2 ρ2 (pre ++ strip ws) H4 G4 F3 F4) (np : noRef pre = true) (hl : ρ2.length = ρ.length) (hl2 : σ2.length = σ.length)
    (p1 : ∀ j ∈ vs, plain0 ρ[j]? ∧ plain0 ρ2[j]?) (p2 : ∀ j, j ∉ vs → ρ2[j]? = ρ[j]? ∧ σ2[j]? = σ[j]?) : Si K G1 σ ρ (pre ++ ws) H4 G4 F3 F4 :=
  ⟨J.ex0.trans I.ex0, I.ex, RSl.merge I.ex0 σ ρ σ2 ρ2 (fun j => j ∈ vs) F1 F3 J.sl I.sl J.ln hl hl2 p1 p2, RWs.unstrip np J.wv I.wv, I.nd, I.fr, I.tu, J.ln⟩
theorem lc_imp {j : Nat} {it : Fit} {t : Tg} {vs : List Nat} (hsub : ∀ i ∈ slotsT t, i ∈ vs) (σ : L2.St) (H : Hp) (Q : VK) (h : tE K (pLc j it t vs T A) σ H Q) : tLc (tIc K it) (tG K t) (tT K T) (tE K A) vs σ H Q := by
  obtain ⟨G0, ρ, ws, a, I, hf, q⟩ := h
  unfold pLc at hf
  split at hf
  · rename_i hv
    obtain ⟨ds, hds, hf⟩ := Option.bind_eq_some_iff.mp hf
    split at hf
    · rename_i hbig
      obtain ⟨out, ho, rfl⟩ := Option.map_eq_some_iff.mp hf
      have hv' : ∀ v ∈ vs, plain0 ρ[v]? := fun v hm => lvl0_plain (List.all_eq_true.mp hv v hm)
      refine ⟨G0, ρ, ws, ds, I, hds, fun J H1 G1 e01 I1 items Dl hD => ?_⟩
      refine ⟨fun i m H => m = ds.length - i ∧ i ≤ ds.length ∧ ∃ acc rest, SI K G1 σ ρ ((.ref Dl, .v (j + 1) (.lst acc)) :: ws) H ∧ compL t T A j (wipeE ρ vs) (ds.drop i) = some rest ∧ acc ++ rest = out ∧ acc.length ≤ i, ⟨ds.length, by simp, Nat.zero_le _, [], out, ?_, ho, rfl, Nat.le_refl _⟩, ?_⟩
      · obtain ⟨G, F1, F2, S⟩ := I1
        have g := Grow.newO (o := .lst []) S.ex hD trivial
        exact (S.push (k := j + 1) (d := .lst []) g ⟨Dl, [], [], rfl, upd_same, rfl, rfl, rfl⟩).SI
      · rintro i m H2 ⟨rfl, hi, acc, rest, I2, hc, hout, hacc⟩
        by_cases hlt : i < ds.length
        · obtain ⟨G, F1, F2, S⟩ := I2
          refine .inr ⟨items.goes i G H2 hlt ⟨_, _, _, S⟩, ?_⟩
          rw [List.drop_eq_getElem_cons hlt] at hc
          obtain ⟨ρ1, hb1, hc⟩ := Option.bind_eq_some_iff.mp hc
          obtain ⟨b, hT, hc⟩ := Option.bind_eq_some_iff.mp hc
          refine ⟨fun H => ∃ acc rest, SI K G1 σ ρ ((.ref Dl, .v (j + 1) (.lst acc)) :: ws) H ∧ compL t T A j (wipeE ρ vs) (ds.drop (i + 1)) = some rest ∧ acc ++ rest = out ∧ acc.length ≤ i + 1, fun H' ⟨acc, rest, h1, h2, h3, h4⟩ => ⟨ds.length - (i + 1), by omega, rfl, hlt, acc, rest, h1, h2, h3, h4⟩, fun x H' y => ?_⟩
          obtain ⟨G', d, gr, hd, rd⟩ := items.yields i G H2 x H' hlt ⟨_, _, _, S⟩ y
          have ed : d = ds[i] := by rw [List.getElem?_eq_getElem hlt] at hd; exact (Option.some.inj hd).symm
          subst ed
          have S3 := S.grow gr
          -- within the block
          have Sw : Si K G' (wipe σ vs) (wipeE ρ vs) ((.ref Dl, .v (j + 1) (.lst acc)) :: strip ws) H' G' F1 F2 :=
            ⟨Same.refl _, S3.ex, RSl.wiped σ ρ F1 S3.sl S3.ln hv', by exact RWs.strip (ws := (.ref Dl, .v (j + 1) (.lst acc)) :: ws) S3.wv, S3.nd, S3.fr, S3.tu, by rw [wipe_length, wipeE_len]; exact S3.ln⟩
          obtain ⟨b1, b2, b3⟩ := bindT_but t (0, ds[i]) _ ρ1 hb1
          have hl1 : ρ1.length = ρ.length := by rw [b1, wipeE_len]
          have p1 : ∀ k ∈ vs, plain0 ρ[k]? ∧ plain0 ρ1[k]? := fun k hk => ⟨hv' k hk, b3 rfl k (wipeE_in hk)⟩
          refine ⟨G', wipeE ρ vs, (.ref Dl, .v (j + 1) (.lst acc)) :: strip ws, 0, ds[i], ρ1, noRef_strip ws, (Sw.pushF rd).SI, hb1, fun σ' but I' => ⟨wipe_but but hsub, G', ρ1, _, b, I', hT, fun H3 I3 => ?_⟩⟩
          have hl2 : σ'.length = σ.length := by rw [but.1, wipe_length]
          have p2 : ∀ k, k ∉ vs → ρ1[k]? = ρ[k]? ∧ σ'[k]? = σ[k]? := fun k hk => ⟨by rw [b2 k (fun z => hk (hsub k z)), wipeE_out hk], by rw [but.2 k (fun z => hk (hsub k z)), wipe_out hk]⟩
          cases b with
          | false =>
            rw [if_neg Bool.false_ne_true] at hc
            refine iteF ?_
            obtain ⟨G5, F5, F6, S5⟩ := I3
            have S6 := Si.unwipe (pre := []) (ws := (.ref Dl, .v (j + 1) (.lst acc)) :: ws) S3 S5 rfl hl1 hl2 p1 p2
            exact ⟨acc, rest, S6.SI, hc, hout, Nat.le_succ_of_le hacc⟩
          | true =>
            rw [if_pos rfl] at hc
            refine iteT ?_
            obtain ⟨a, hA, hc⟩ := Option.bind_eq_some_iff.mp hc
            cases a with
            | r n => cases hc
            | v k xd =>
              simp only at hc
              split at hc
              · rename_i hlv
                obtain ⟨rest', hr', rfl⟩ := Option.map_eq_some_iff.mp hc
                refine ⟨G', ρ1, _, _, I3, hA, fun y4 H4 I4 => ?_⟩
                obtain ⟨G5, F5, F6, S5⟩ := I4
                have S6 := Si.unwipe (pre := [(y4, .v k xd)]) (ws := (.ref Dl, .v (j + 1) (.lst acc)) :: ws) S3 S5 rfl hl1 hl2 p1 p2
                obtain ⟨xs, hx1, hx2, hx3⟩ := Si.addItem hlv S6
                refine ⟨xs, hx1, ?_, acc ++ [xd], rest', hx3, hr', by rw [List.append_assoc]; exact hout, by rw [List.length_append]; exact Nat.succ_le_succ hacc⟩
                rw [hx2]
                exact big_lt (by omega)
              · cases hc
        · have ei : i = ds.length := by omega
          subst ei
          rw [List.drop_length] at hc
          cases hc
          rw [List.append_nil] at hout
          subst hout
          obtain ⟨G, F1, F2, S⟩ := I2
          exact .inl ⟨items.stops G H2 ⟨_, _, _, S⟩, q _ H2 (S.SI.base e01)⟩
    · cases hf
  · cases hf
theorem e_lc {j : Nat} {it : Fit} {t : Tg} {elt tg iter : Expr} {ifs : List Expr} {scope : Scope} {own : List (Str × Nat)} (hc : X.calm = true) (hN : X.N.Nodup) (hi : OkIc X tg iter it) (ok : BlkOk X.N X.env.scope scope own)
    (hg : ∀ (s : Shared) (H : Hp) (C : Addr) (cl : List (Str × Addr)) (fp : List Addr), OkG (X.blk s H scope (compEnvC scope cl C X.env) fp) tg t) (ht : ∀ (s : Shared) (H : Hp) (C : Addr) (cl : List (Str × Addr)) (fp : List Addr), OkTs (X.blk s H scope (compEnvC scope cl C X.env) fp) ifs T)
    (he : ∀ (s : Shared) (H : Hp) (C : Addr) (cl : List (Str × Addr)) (fp : List Addr), OkE (X.blk s H scope (compEnvC scope cl C X.env) fp) elt A) (hsub : ∀ i ∈ slotsT t, i ∈ own.map (·.2) := by decide) (hs : ∀ x, foldedSetIterable iter X.env x = pure x := by exact fun _ => rfl) :
    OkE X (.ListComp elt [⟨tg, iter, ifs, 0⟩] scope pos) (pLc j it t (own.map (·.2)) T A) := PE.imp (pe_lc (g := tG X.K t) (tt := tT X.K T) (te := tE X.K A) hc hN hi ok hg ht he hs) (lc_imp hsub)
/-- x = [..] on one line -/
theorem s_setLc {i j : Nat} {y : Str} {py : Pos} {it : Fit} {t : Tg} {elt tg iter : Expr} {ifs : List Expr} {scope : Scope} {own : List (Str × Nat)} {spos : Pos} (hc : X.calm = true) (hN : X.N.Nodup) (hsw : swapsWith (.ListComp elt [⟨tg, iter, ifs, 0⟩] scope pos) (some (.Name y py)) spos.line X.env = pure true)
    (hi : OkIc X tg iter it) (ok : BlkOk X.N X.env.scope scope own)
    (hg : ∀ (s : Shared) (H : Hp) (C : Addr) (cl : List (Str × Addr)) (fp : List Addr), OkG (X.blk s H scope (compEnvC scope cl C X.env) fp) tg t) (ht : ∀ (s : Shared) (H : Hp) (C : Addr) (cl : List (Str × Addr)) (fp : List Addr), OkTs (X.blk s H scope (compEnvC scope cl C X.env) fp) ifs T)
    (he : ∀ (s : Shared) (H : Hp) (C : Addr) (cl : List (Str × Addr)) (fp : List Addr), OkE (X.blk s H scope (compEnvC scope cl C X.env) fp) elt A) (hy : X.N[i]? = some y := by rfl) (hyl : X.env.scope.names.lookup y = some .local := by rfl) (hsub : ∀ i ∈ slotsT t, i ∈ own.map (·.2) := by decide) (hs : ∀ x, foldedSetIterable iter X.env x = pure x := by exact fun _ => rfl) :
    OkS X (.Assign [.Name y py] (.ListComp elt [⟨tg, iter, ifs, 0⟩] scope pos) spos) (sAsg i (pLc j it t (own.map (·.2)) T A)) := PS.imp (ps_setLc (g := tG X.K t) (tt := tT X.K T) (te := tE X.K A) hc hN hy hyl hsw hi ok hg ht he hs) fun D σ H h => lc_imp hsub σ H _ (asg_imp σ H h)
/-! ### what a comprehension walks -/
/-- a list, also one that a slot owns -/
def iLc (A : Fe) : Fit := fun ρ => (val A ρ).bind fun w => match w.2 with
  | .lst ds => if w.1 ≤ 1 then some ds else none
  | _ => none
end
end Pv
set_option Elab.async false
set_option linter.all false
set_option maxRecDepth 100000
/-! P9: sources of comprehensions, lists changed in place, own defs -/
namespace Pv
open PySem PySem.Spec PyProof.Rows L2
section
variable {X : Cx} {K : PySem.W.Frag} {G0 G G1 G' G4 H H' H4 : Hp} {σ : L2.St} {ρ : Env} {ws : List (V × Arg)} {F1 F2 : List Addr} {e a b c tg : Expr} {es : List Expr} {pos : Pos} {A B C : Fe} {T : Fb} {st : Stmt} {rest body : List Stmt} {f g : Fs}
/-! ### what a comprehension walks -/
theorem Items.listS {p : Addr} {ds : List D} {i : Nat} {k : Nat} (hk : k ≤ 1) (hρ : ρ[i]? = some (some (k, .lst ds))) (hσ : σ[i]? = some (some (.ref p))) : Items K (Itl K p) ds (fun G H => ∃ ws' F1 F2, Si K G1 σ ρ ws' H G F1 F2) := by
  have look : ∀ G H, (∃ ws' F1 F2, Si K G1 σ ρ ws' H G F1 F2) → Same G H ∧ ∃ xs, H p = some (.lst xs) ∧ RepFs K G ds xs := fun G H ⟨ws', F1, F2, I⟩ => by
    obtain ⟨v, Fi, h1, h2, _⟩ := I.sl.at hρ
    rw [hσ] at h1
    cases h1
    obtain ⟨a, xs, h3, h4, h5⟩ := RO.lst1 I.ex hk h2
    cases h3
    exact ⟨I.ex, xs, h4, h5⟩
  refine ⟨fun j G H hj P => ?_, fun G H P => ?_, fun j G H x H' hj P ⟨hy, hx⟩ => ?_⟩
  · obtain ⟨e, xs, h1, h2⟩ := look G H P
    exact ⟨xs, xs[j]'(by rw [h2.len]; exact hj), SqL.of h1, by simp [h2.len, hj]⟩
  · obtain ⟨e, xs, h1, h2⟩ := look G H P
    exact ⟨xs, SqL.of h1, by rw [h2.len]; exact Nat.le_refl _⟩
  · obtain ⟨e, xs, h1, h2⟩ := look G H P
    subst hy
    obtain ⟨z, h3, h4⟩ := h2.get (List.getElem?_eq_getElem hj)
    have := hx xs (SqL.of h1)
    rw [h3] at this
    cases this
    exact ⟨G, ds[j], Grow.refl e, List.getElem?_eq_getElem hj, h4⟩
theorem c_list (h : OkE X e A) : OkIc X tg e (iLc A) := PI.imp (pi_list h) fun σ H R ⟨G0, ρ, ws, ds, I, hf, q⟩ => by
  obtain ⟨w, hw, hf⟩ := Option.bind_eq_some_iff.mp hf
  obtain ⟨a, ha, hg⟩ := val_some hw
  obtain ⟨k, d⟩ := w
  cases d <;> first | (cases hf; done) | skip
  simp only at hf
  split at hf
  · rename_i hk
    cases hf
    refine ⟨G0, ρ, ws, a, I, ha, fun v H1 I1 => ?_⟩
    obtain ⟨G, F1, F2, J⟩ := I1
    cases a with
    | v k' d' =>
      cases hg
      obtain ⟨G1, F2', J1, e1, r1⟩ := J.freeze
      obtain ⟨p, xs, rfl, h1, h2⟩ := r1
      exact ⟨p, rfl, ⟨xs, SqL.of (J1.ex _ _ h1)⟩, q _ H1 G1 J1.ex0 J1.up (Items.listF h1 h2).toC⟩
    | r i =>
      have hρ : ρ[i]? = some (some (k, .lst ds)) := join_some hg
      obtain ⟨h1, _, _⟩ := J.wv
      obtain ⟨F2', _, J'⟩ := J.drop
      obtain ⟨v', Fi, q1, q2, _⟩ := J'.sl.at hρ
      rw [h1] at q1
      cases q1
      obtain ⟨p, xs, rfl, h3, h4⟩ := RO.lst1 J'.ex hk q2
      exact ⟨p, rfl, ⟨xs, SqL.of h3⟩, q _ H1 G0 (Same.refl _) J'.SI (Items.listS hk hρ h1)⟩
  · cases hf
theorem c_tup (h : OkE X e A) : OkIc X tg e (iValT A) := PI.imp (pi_tup h) fun σ H R ⟨G0, ρ, ws, ds, I, hf, q⟩ => by
  obtain ⟨w, hw, hf⟩ := Option.bind_eq_some_iff.mp hf
  obtain ⟨a, ha, hg⟩ := val_some hw
  refine ⟨G0, ρ, ws, a, I, ha, fun v H1 I1 => ?_⟩
  obtain ⟨G, F1, F2, J⟩ := I1
  obtain ⟨Fx, rx⟩ := J.top hg
  obtain ⟨p, xs, rfl, h1, h2⟩ := tupK_rep hf rx
  obtain ⟨F2', _, J'⟩ := J.drop
  exact ⟨p, rfl, ⟨xs, same_t J.ex h1⟩, q _ H1 G J'.ex0 J'.up (Items.tupF h1 h2).toC⟩
theorem c_range1 {p : Pos} (hg : Gl X "range") (hm : X.mg "range" = none) (ha : OkE X a A) (hs : starEach [a] X.env = [(false, eval a X.env)] := by rfl) : OkIc X tg (.Call (.Name "range" p) [a] [] pos) (iRange1 A) :=
  PI.imp (pi_range1 (ta := tA X.K (aCons A aNil)) hg hm (a_cons ha a_nil hs) hs) fun σ H R ⟨G0, ρ, ws, ds, I, hf, q⟩ => by
  obtain ⟨w, hw, hf⟩ := Option.bind_eq_some_iff.mp hf
  obtain ⟨k, d⟩ := w
  cases d <;> first | (cases hf; done) | skip
  rename_i n
  simp only at hf
  split at hf
  · rename_i hn
    cases hf
    refine val1 I hw fun v H1 G F1 F2 Fx J rx => ?_
    obtain rfl := rx.int
    exact ⟨n, rfl, by omega, by omega, q _ H1 G J.ex0 J.up Items.rng.toC⟩
  · cases hf
theorem c_range2 {p : Pos} (hg : Gl X "range") (hm : X.mg "range" = none) (ha : OkE X a A) (hb : OkE X b B) (hs : starEach [a, b] X.env = [(false, eval a X.env), (false, eval b X.env)] := by rfl) (hs2 : starEach [b] X.env = [(false, eval b X.env)] := by rfl) :
    OkIc X tg (.Call (.Name "range" p) [a, b] [] pos) (iRange2 A B) :=
  PI.imp (pi_range2 (ta := tA X.K (aCons A (aCons B aNil))) hg hm (a_cons ha (a_cons hb a_nil hs2) (by rw [hs, hs2])) hs hs2) fun σ H R ⟨G0, ρ, ws, ds, I, hf, q⟩ => by
  obtain ⟨w, hw, hf⟩ := Option.bind_eq_some_iff.mp hf
  obtain ⟨u, hu, hf⟩ := Option.bind_eq_some_iff.mp hf
  obtain ⟨k, d⟩ := w
  obtain ⟨l, c⟩ := u
  cases d <;> first | (cases hf; done) | skip
  cases c <;> first | (cases hf; done) | skip
  simp only at hf
  split at hf
  · rename_i hn
    cases hf
    refine val2 I hw hu fun v y H1 G F1 F2 Fx Fy J rx ry => ?_
    obtain rfl := rx.int
    obtain rfl := ry.int
    exact ⟨_, _, rfl, ⟨by omega, by omega, by omega, by omega⟩, q _ H1 G J.ex0 J.up Items.rng.toC⟩
  · cases hf
/-! ### a slot frozen -/
theorem Si.slot {i : Nat} {w : W} (I : Si K G0 σ ρ ws H G F1 F2) (h : ρ[i]? = some (some w)) : ∃ v Fa Fi Fb, F1 = Fa ++ Fi ++ Fb ∧ σ[i]? = some (some v) ∧ RO K G H w.1 w.2 v Fi ∧
    ∀ (G' H' : Hp) (w' : W) (Fi' : List Addr), Same G G' → (∀ b ∈ Fa ++ Fb, H' b = H b) → RO K G' H' w'.1 w'.2 v Fi' → RSl K G' H' σ (ρ.set i (some w')) (Fa ++ Fi' ++ Fb) := by
  have hi : i < ρ.length := (List.getElem?_eq_some_iff.mp h).1
  obtain ⟨Fa, Fi, Fb, e1, e2, _, e3⟩ := RSl.zoom σ ρ F1 i I.sl hi (by rw [I.ln]; exact hi)
  obtain ⟨v, h1, h2⟩ := e2 w h
  refine ⟨v, Fa, Fi, Fb, e1, h1, h2, fun G' H' w' Fi' g1 g2 g3 => ?_⟩
  have := e3 G' H' (some v) (some w') Fi' g1 g2 (fun w e => by cases e; exact ⟨v, rfl, g3⟩) (fun e => by cases e)
  have hs : σ.set i (some v) = σ := by
    obtain ⟨hlt, e⟩ := List.getElem?_eq_some_iff.mp h1
    rw [← e, List.set_getElem_self]
  rw [hs] at this
  exact this
theorem Si.frzSlot {i k : Nat} {d : D} (I : Si K G0 σ ρ [] H G F1 F2) (h : ρ[i]? = some (some (k, d))) : Pv.SI K G0 σ (ρ.set i (some (0, d))) [] H := by
  obtain ⟨v, Fa, Fi, Fb, e1, h1, h2, h3⟩ := I.slot h
  subst e1
  have e2 : F2 = [] := I.wv
  subst e2
  have nd := I.nd
  simp only [List.nodup_append, List.mem_append, List.append_nil] at nd
  have e := same_lay (G := G) (H := H) (F := Fi) (fun a ha => I.fr a (by simp [ha]))
  have hout : ∀ b, b ∈ Fa ∨ b ∈ Fb → b ∉ Fi := fun b hb z => by
    rcases hb with hb | hb
    · exact nd.1.2.2 b hb b z rfl
    · exact nd.2.2 b (.inr z) b hb rfl
  refine ⟨lay G H Fi, Fa ++ [] ++ Fb, [], I.ex0.trans e, lay_same I.ex, h3 _ _ (0, d) [] e (fun _ _ => rfl) ⟨RO.toF e _ _ _ Fi (fun a ha => lay_in ha) h2, rfl⟩, rfl, ?_, fun b hb => ?_, fun b o q1 q2 => e b o (I.tu b o q1 q2), by rw [List.length_set]; exact I.ln⟩
  · simp only [List.nodup_append, List.mem_append, List.append_nil]
    exact ⟨nd.1.1, nd.2.1, fun p hp q hq => nd.2.2 p (.inl hp) q hq⟩
  · simp only [List.mem_append, List.append_nil] at hb
    rw [lay_out (hout b hb)]
    refine I.fr b ?_
    rcases hb with hb | hb <;> simp [hb]
/-- slot i is frozen, then f -/
def bFrz (i : Nat) (f : Fs) : Fs := fun ρ => ((ρ[i]?).join).bind fun w => f (ρ.set i (some (0, w.2)))
theorem b_frz (i : Nat) {sts : List Stmt} (h : OkB X sts f) : OkB X sts (bFrz i f) := PSs.imp h fun D σ H ⟨G0, ρ, fl, ρ', I, hf, post⟩ => by
  obtain ⟨w, hw, hf⟩ := Option.bind_eq_some_iff.mp hf
  obtain ⟨G, F1, F2, J⟩ := I
  exact ⟨G0, _, fl, ρ', J.frzSlot (k := w.1) (d := w.2) (join_some hw), hf, post⟩
/-! ### lists changed in place -/
theorem SI.upd {i : Nat} {p : Addr} {o : HO} {w w' : W} {v : V} {pre : List (V × Arg)} {Fa F' F'' Fb : List Addr} (I : Si K G0 σ ρ pre H G (Fa ++ (p :: F') ++ Fb) F2) (ho : isOwn o)
    (hs : ∀ (G' H' : Hp) (w' : W) (Fi' : List Addr), Same G G' → (∀ b ∈ Fa ++ Fb, H' b = H b) → RO K G' H' w'.1 w'.2 v Fi' → RSl K G' H' σ (ρ.set i (some w')) (Fa ++ Fi' ++ Fb))
    (nd : F''.Nodup) (sub : ∀ b ∈ F'', b ∈ F' ∨ b ∈ F2) (r : RO K G (upd H p o) w'.1 w'.2 v (p :: F'')) : SI K G0 σ (ρ.set i (some w')) [] (upd H p o) := by
  have n := I.nd
  have fr := I.fr
  simp only [List.nodup_append, List.mem_append, List.nodup_cons, List.mem_cons, List.cons_append] at n fr
  obtain ⟨⟨⟨n1, ⟨n2, n3⟩, n4⟩, n5, n6⟩, n7, n8⟩ := n
  have hp : ∀ b, b ∈ Fa ∨ b ∈ Fb → b ≠ p := fun b hb z => by
    subst z
    rcases hb with hb | hb
    · exact n4 b hb b (.inl rfl) rfl
    · exact n6 b (.inr (.inl rfl)) b hb rfl
  have hG : G p = none := fr p (by simp)
  refine ⟨G, Fa ++ (p :: F'') ++ Fb, [], I.ex0, fun b u q => ?_, hs G _ w' (p :: F'') (Same.refl _) (fun b hb => upd_ne (hp b (by simpa using hb))) r, rfl, ?_, fun b hb => ?_, fun b u q1 q2 => ?_, by rw [List.length_set]; exact I.ln⟩
  · rw [upd_ne (ne_of_none q hG)]; exact I.ex b u q
  · simp only [List.nodup_append, List.mem_append, List.nodup_cons, List.mem_cons, List.cons_append, List.append_nil]
    refine ⟨⟨n1, ⟨fun z => ?_, nd⟩, fun x hx y hy e => ?_⟩, n5, fun x hx y hy e => ?_⟩
    · rcases sub p z with q | q
      · exact n2 q
      · exact n8 p (.inl (.inr (.inl rfl))) p q rfl
    · subst e
      rcases hy with hy | hy
      · exact n4 x hx x (.inl hy) rfl
      · rcases sub x hy with q | q
        · exact n4 x hx x (.inr q) rfl
        · exact n8 x (.inl (.inl hx)) x q rfl
    · subst e
      rcases hx with hx | hx | hx
      · exact n6 x (.inl hx) x hy rfl
      · exact n6 x (.inr (.inl hx)) x hy rfl
      · rcases sub x hx with q | q
        · exact n6 x (.inr (.inr q)) x hy rfl
        · exact n8 x (.inr hy) x q rfl
  · apply fr
    simp only [List.mem_append, List.mem_cons, List.append_nil, List.cons_append] at hb
    rcases hb with (hb | hb | hb) | hb
    · exact .inl (.inl (.inl hb))
    · exact .inl (.inl (.inr (.inl hb)))
    · rcases sub b hb with q | q
      · exact .inl (.inl (.inr (.inr q)))
      · exact .inr q
    · exact .inl (.inr hb)
  · by_cases hb : b = p
    · subst hb; rw [upd_same] at q1; cases q1; exact absurd ho q2
    · rw [upd_ne hb] at q1; exact I.tu b u q1 q2
theorem ROs.snoc {R : D → V → List Addr → Prop} {x : D} {y : V} {Fy : List Addr} (ry : R x y Fy) : ∀ {ds : List D} {us : List V} {Fa : List Addr}, ROs R ds us Fa → ROs R (ds ++ [x]) (us ++ [y]) (Fa ++ Fy)
  | [], _, _, ⟨q1, q2⟩ => by subst q1 q2; exact ⟨y, [], Fy, [], rfl, by simp, ry, rfl, rfl⟩
  | d :: ds, _, _, ⟨u, r, Fc, Fd, q1, q2, q3, q4⟩ => by subst q1 q2; exact ⟨u, r ++ [y], Fc, Fd ++ Fy, rfl, by simp [List.append_assoc], q3, ROs.snoc ry q4⟩
/-- x.append(e), x in slot i -/
def sApp (i : Nat) (A : Fe) : Fs := fun ρ => ((ρ[i]?).join).bind fun w => match w with
  | (k + 1, .lst ds) => (A ρ).bind fun a => match a with
    | .v j d => if lvlOk k j d = true ∧ ds.length < big then some (.nx, ρ.set i (some (k + 1, .lst (ds ++ [d])))) else none
    | .r _ => none
  | _ => none
theorem app_core {i k j : Nat} {ds : List D} {d : D} {y : V} (ok : lvlOk k j d = true) (I : SI K G0 σ ρ [(y, .v j d)] H) (h : ρ[i]? = some (some (k + 1, .lst ds))) :
    ∃ p xs, σ[i]? = some (some (.ref p)) ∧ H p = some (.lst xs) ∧ xs.length = ds.length ∧ SI K G0 σ (ρ.set i (some (k + 1, .lst (ds ++ [d])))) [] (upd H p (.lst (xs ++ [y]))) := by
  obtain ⟨G, F1, F2, I⟩ := I
  have key : ∃ G1 F2' pre Fy, Si K G0 σ ρ pre H G1 F1 F2' ∧ RO K G1 H k d y Fy ∧ Fy.Nodup ∧ ∀ b ∈ Fy, b ∈ F2' := by
    unfold lvlOk at ok
    by_cases h0 : k = 0
    · subst h0
      obtain ⟨G1, F2', J, e, r⟩ := I.freeze
      exact ⟨G1, F2', [], [], J, ⟨r, rfl⟩, List.nodup_nil, fun b hb => by cases hb⟩
    · have wv := I.wv
      obtain ⟨Fy, Fz, e2, r, rz⟩ := wv
      have rz : Fz = [] := rz
      subst rz e2
      have nd := I.nd
      simp only [List.nodup_append, List.append_nil] at nd
      by_cases hk : j = k
      · subst hk
        exact ⟨G, _, _, Fy, I, r, nd.2.1, fun b hb => by simpa using hb⟩
      · have nb : isBox d = false := by simpa [h0, hk] using ok
        obtain ⟨r1, hF⟩ := r.plain nb
        subst hF
        exact ⟨G, _, _, [], I, RO.of_plain (w := (k, d)) (.inr nb) r1, List.nodup_nil, fun b hb => by cases hb⟩
  obtain ⟨G1, F2', pre, Fy, J, ry, nd, sub⟩ := key
  obtain ⟨v, Fa, Fi, Fb, e1, h1, h2, h3⟩ := J.slot h
  obtain ⟨p, xs, F', rfl, h4, rfl, h5⟩ := h2
  subst e1
  have hn := J.nd
  simp only [List.nodup_append, List.mem_append, List.nodup_cons, List.mem_cons, List.cons_append] at hn
  have pF : p ∉ F' := hn.1.1.2.1.1
  have pY : p ∉ Fy := fun z => hn.2.2 p (.inl (.inr (.inl rfl))) p (sub p z) rfl
  refine ⟨p, xs, h1, h4, h5.len, SI.upd (w := (k + 1, .lst ds)) (F'' := F' ++ Fy) J trivial h3 ?_ (fun b hb => ?_) ⟨p, xs ++ [y], F' ++ Fy, rfl, upd_same, rfl, ?_⟩⟩
  · refine List.nodup_append.mpr ⟨hn.1.1.2.1.2, nd, fun x hx z hz e => ?_⟩
    subst e
    exact hn.2.2 x (.inl (.inr (.inr hx))) x (sub x hz) rfl
  · rcases List.mem_append.mp hb with q | q
    · exact .inl q
    · exact .inr (sub b q)
  · refine ROs.imp _ _ _ (fun d v F s r => RO.mono (Same.refl _) _ _ _ _ (fun b hb => upd_ne fun z => ?_) r) (ROs.snoc (R := RO K G1 H k) ry h5)
    subst z
    rcases List.mem_append.mp (s b hb) with q | q
    · exact pF q
    · exact pY q
theorem s_app {i : Nat} {x : Str} {p apos cpos : Pos} (he : OkE X e A) (hN : X.N[i]? = some x := by rfl) (hv : Vis X.env.scope x := by first | exact Or.inl rfl | exact Or.inr (Or.inl rfl) | exact Or.inr (Or.inr rfl)) (hd : (x == ("__debug__" : Str)) = false := by decide) (hcd : (x == ("__classdict__" : Str)) = false := by decide)
    (hfew : ((backTo cpos (starEach [e] X.env)).all (fun x => !x.1) && (backToKw cpos (keywordEach [] X.env)).all (fun x => x.1.isSome) && decide ([e].length + ([] : List Keyword).length + (if ([] : List Keyword).isEmpty then 0 else 1) < 30)) = true := by rfl)
    (hline : (apos.endLine == cpos.line) = true := by rfl) (hs : starEach [e] X.env = (false, eval e X.env) :: starEach [] X.env := by rfl) (hsw : swapsWith (.Call (.Attribute (.Name x p) "append" apos) [e] [] cpos) none pos.line X.env = pure false := by rfl) :
    OkS X (.Expr (.Call (.Attribute (.Name x p) "append" apos) [e] [] cpos) pos) (sApp i A) :=
  PS.imp (ps_expr (pe_bm PySem.F.plainAttrs_list PySem.F.slot_list_append PySem.F.type_list_append mt_append (pe_var hN hv hd hcd) (pa_cons he pa_nil hs) (by rfl) hfew hline hs (by rfl)) hsw) fun D σ H ⟨G0, ρ, fl, ρ', I, hf, post⟩ => by
  obtain ⟨w, hw, hf⟩ := Option.bind_eq_some_iff.mp hf
  split at hf
  · rename_i k ds
    obtain ⟨a, ha, hf⟩ := Option.bind_eq_some_iff.mp hf
    cases a with
    | r j => cases hf
    | v j d =>
      simp only at hf
      split at hf
      · rename_i ok
        cases hf
        have hρ := join_some hw
        have hx : ∃ p xs, σ[i]? = some (some (.ref p)) ∧ H p = some (.lst xs) := by
          obtain ⟨G, F1, F2, J⟩ := I
          obtain ⟨v, Fi, h1, h2, _⟩ := J.sl.at hρ
          obtain ⟨p, xs, rfl, h3, _⟩ := RO.lstN J.ex h2
          exact ⟨p, xs, h1, h3⟩
        obtain ⟨p, xs, h1, h2⟩ := hx
        refine ⟨.ref p, h1, .inl ⟨rfl, xs, SqL.of h2⟩, G0, ρ, [], _, I, ha, fun y H1 I1 => ?_⟩
        obtain ⟨p', xs', q1, q2, q3, q4⟩ := app_core ok.1 I1 hρ
        rw [h1] at q1
        cases q1
        exact ⟨p, xs', y, rfl, rfl, q2, by rw [q3]; exact big_lt ok.2, post _ _ q4⟩
      · cases hf
  · cases hf
/-- x[j] = e, x in slot i a list of frozen items -/
def setAt {α : Type} (xs : List α) (i : Int) (v : α) : Option (List α) := (ixN xs.length i).map fun j => xs.set j v
theorem RepFs.set {x : D} {y : V} (r : RepF K G x y) : ∀ {ds : List D} {xs : List V} (j : Nat), RepFs K G ds xs → RepFs K G (ds.set j x) (xs.set j y)
  | [], _, j, h => by rw [show _ = [] from h]; simp; exact (rfl : ([] : List V) = [])
  | d :: ds, _, 0, ⟨z, t, h1, h2, h3⟩ => by rw [h1]; exact ⟨y, t, rfl, r, h3⟩
  | d :: ds, _, j + 1, ⟨z, t, h1, h2, h3⟩ => by rw [h1]; exact ⟨z, t.set j y, rfl, h2, RepFs.set r j h3⟩
def sSet (i : Nat) (B : Fe) (A : Fe) : Fs := fun ρ => (A ρ).bind fun a => match a with
  | .v _ d => ((ρ[i]?).join).bind fun w => match w with
    | (1, .lst ds) => (val B ρ).bind fun u => match u.2 with
      | .int n => (setAt ds n d).map fun ds' => (.nx, ρ.set i (some (1, .lst ds')))
      | _ => none
    | _ => none
  | .r _ => none
theorem s_set {i : Nat} {x : Str} {p tpos : Pos} (he : OkE X e A) (hb : OkE X b B) (hN : X.N[i]? = some x := by rfl) (hv : Vis X.env.scope x := by first | exact Or.inl rfl | exact Or.inr (Or.inl rfl) | exact Or.inr (Or.inr rfl)) (hd : (x == ("__debug__" : Str)) = false := by decide) (hcd : (x == ("__classdict__" : Str)) = false := by decide)
    (ha : ∀ v, assign (.Subscript (.Name x p) b tpos) X.env v = (do
      let ov ← holding [v] (eval (.Name x p) X.env)
      let iv ← holding [v, ov] (eval b X.env)
      standAt tpos
      holding [v, ov, iv] (setItem ov iv v)
      release [v, ov, iv] []) := by exact fun _ => rfl)
    (hs : swapsWithSole [.Subscript (.Name x p) b tpos] e pos.line X.env = pure false := by rfl) (hw : swappedStores [.Subscript (.Name x p) b tpos] e X.env = pure none := by rfl) (h1 : (assignEach [.Subscript (.Name x p) b tpos] X.env).map (·.2) = [assign (.Subscript (.Name x p) b tpos) X.env] := by rfl) :
    OkS X (.Assign [.Subscript (.Name x p) b tpos] e pos) (sSet i B A) := PS.imp (ps_asg he (pg_sub (pe_var hN hv hd hcd) hb set_list ha) hs hw h1) fun D σ H ⟨G0, ρ, fl, ρ', I, hf, post⟩ => by
  obtain ⟨a, ha, hf⟩ := Option.bind_eq_some_iff.mp hf
  cases a with
  | r j => cases hf
  | v j d =>
    obtain ⟨w, hw, hf⟩ := Option.bind_eq_some_iff.mp hf
    split at hf
    · rename_i ds
      obtain ⟨u, hu, hf⟩ := Option.bind_eq_some_iff.mp hf
      obtain ⟨l, c⟩ := u
      cases c <;> first | (cases hf; done) | skip
      rename_i n
      obtain ⟨ds', hds, hf⟩ := Option.map_eq_some_iff.mp hf
      cases hf
      obtain ⟨m, hm, rfl⟩ := Option.map_eq_some_iff.mp hds
      obtain ⟨a2, ha2, hg2⟩ := val_some hu
      have hρ := join_some hw
      refine ⟨G0, ρ, [], _, I, ha, fun y H1 I1 => ?_⟩
      have hx : ∃ p, σ[i]? = some (some (.ref p)) := by
        obtain ⟨G, F1, F2, J⟩ := I1
        obtain ⟨v, Fi, h1, h2, _⟩ := J.sl.at hρ
        obtain ⟨p, xs, rfl, h3, _⟩ := RO.lstN J.ex h2
        exact ⟨p, h1⟩
      obtain ⟨p, hp⟩ := hx
      refine ⟨.ref p, hp, G0, ρ, [(y, .v j d)], a2, I1, ha2, fun z H2 I2 => ?_⟩
      obtain ⟨G, F1, F2, J⟩ := I2
      obtain ⟨Fz, rz⟩ := J.top hg2
      obtain rfl := RO.int rz
      obtain ⟨F3, _, J1⟩ := J.drop
      obtain ⟨G2, F4, J2, e2, r2⟩ := J1.freeze
      obtain ⟨v, Fa, Fi, Fb, e1, h1, h2, h3⟩ := J2.slot hρ
      rw [hp] at h1
      cases h1
      obtain ⟨p', xs, F', q0, h4, rfl, h5⟩ := h2
      cases q0
      subst e1
      obtain ⟨h6, h7⟩ := ROs.to_F h5
      subst h7
      refine ⟨p, xs, n, m, rfl, rfl, h4, by rw [h6.len]; exact hm, post _ _ ?_⟩
      exact SI.upd (w := (1, .lst ds)) (F'' := []) J2 trivial h3 List.nodup_nil (fun b hb => by cases hb) ⟨p, xs.set m y, [], rfl, upd_same, rfl, ROs.of_F (RepFs.set r2 m h6)⟩
    · cases hf
/-! ### own defs -/
mutual
def noBox : D → Bool
  | .tup ds => noBoxs ds
  | .lst _ => false
  | .dct _ _ => false
  | .scr _ => false
  | .ktp ds => noBoxs ds
  | .non => true
  | .bl _ => true
  | .int _ => true
  | .str _ => true
def noBoxs : List D → Bool
  | [] => true
  | d :: ds => noBox d && noBoxs ds
end
def cleanD : Nat → D → Bool
  | k + 1, .lst ds => ds.all (cleanD k)
  | k + 1, .dct _ kvs => kvs.all fun p => cleanD k p.2
  | _, d => noBox d
mutual
theorem RepF.move (h : ∀ b o, ¬ isOwn o → G b = some o → G1 b = some o) : ∀ (d : D) (v : V), noBox d = true → RepF K G d v → RepF K G1 d v
  | .non, _, _, r => r
  | .bl _, _, _, r => r
  | .int _, _, _, r => r
  | .str _, _, _, r => r
  | .tup ds, _, n, ⟨a, xs, h1, h2, h3⟩ => ⟨a, xs, h1, h a _ (fun z => z) h2, RepFs.move h ds xs n h3⟩
  | .ktp ds, _, n, ⟨a, xs, h1, h2, h3⟩ => ⟨a, xs, h1, h2.elim .inl fun ⟨od, q1, q2⟩ => .inr ⟨od, q1, h a _ (fun z => z) q2⟩, RepFs.move h ds xs n h3⟩
  | .lst _, _, n, _ => by cases n
  | .dct _ _, _, n, _ => by cases n
  | .scr _, _, n, _ => by cases n
theorem RepFs.move (h : ∀ b o, ¬ isOwn o → G b = some o → G1 b = some o) : ∀ (ds : List D) (xs : List V), noBoxs ds = true → RepFs K G ds xs → RepFs K G1 ds xs
  | [], _, _, r => r
  | d :: ds, _, n, ⟨x, r, h1, h2, h3⟩ => by
    have n' : noBox d = true ∧ noBoxs ds = true := by
      have : (noBox d && noBoxs ds) = true := n
      simpa using this
    exact ⟨x, r, h1, RepF.move h d x n'.1 h2, RepFs.move h ds r n'.2 h3⟩
end
theorem ROs.impA {R R' : D → V → List Addr → Prop} : ∀ (ds : List D) (xs : List V) (F : List Addr), (∀ d ∈ ds, ∀ v F1, R d v F1 → R' d v F1) → ROs R ds xs F → ROs R' ds xs F
  | [], _, _, _, h => h
  | d :: ds, _, _, f, ⟨x, r, F1, F2, h1, h2, h3, h4⟩ => ⟨x, r, F1, F2, h1, h2, f d List.mem_cons_self _ _ h3, ROs.impA ds r F2 (fun d' hd => f d' (List.mem_cons_of_mem _ hd)) h4⟩
theorem ROk.impA {R R' : D → V → List Addr → Prop} : ∀ (ds : List (List Key × D)) (xs : List (List Key × V)) (F : List Addr), (∀ p ∈ ds, ∀ v F1, R p.2 v F1 → R' p.2 v F1) → ROk R ds xs F → ROk R' ds xs F
  | [], _, _, _, h => h
  | (k, d) :: ds, _, _, f, ⟨x, r, F1, F2, h1, h2, h3, h4⟩ => ⟨x, r, F1, F2, h1, h2, f (k, d) List.mem_cons_self _ _ h3, ROk.impA ds r F2 (fun d' hd => f d' (List.mem_cons_of_mem _ hd)) h4⟩
theorem RO.move (h : ∀ b o, ¬ isOwn o → G b = some o → G1 b = some o) : ∀ (k : Nat) (d : D) (v : V) (F : List Addr), cleanD k d = true → RO K G H k d v F → RO K G1 H k d v F
  | 0, d, v, _, n, r => ⟨RepF.move h d v (by cases d <;> exact n) r.1, r.2⟩
  | k + 1, .lst ds, _, _, n, ⟨a, xs, F', h1, h2, h3, h4⟩ => ⟨a, xs, F', h1, h2, h3, ROs.impA ds xs F' (fun d hd v F1 r => RO.move h k d v F1 (List.all_eq_true.mp n d hd) r) h4⟩
  | k + 1, .dct t ds, _, _, n, ⟨a, xs, F', h1, h2, h5, h3, h4⟩ => ⟨a, xs, F', h1, h2, h5, h3, ROk.impA ds xs F' (fun p hp v F1 r => RO.move h k p.2 v F1 (List.all_eq_true.mp n p hp) r) h4⟩
  | k + 1, .non, _, _, _, r => r
  | k + 1, .bl _, _, _, _, r => r
  | k + 1, .int _, _, _, _, r => r
  | k + 1, .str _, _, _, _, r => r
  | k + 1, .tup ds, v, _, n, r => ⟨RepF.move h (.tup ds) v n r.1, r.2⟩
  | k + 1, .scr _, _, _, n, _ => by cases n
  | k + 1, .ktp ds, v, _, n, r => ⟨RepF.move h (.ktp ds) v n r.1, r.2⟩
/-- what a def promises: m of the data -/
def spD (K : PySem.W.Frag) (m : List D → Option W) : Sp := fun vs H Q _ => ∃ ds w, RepFs K H ds vs ∧ m ds = some w ∧ ∀ v H', RetOk K H w v H' → Q v H'
theorem ret_res {w : W} {t : VK → Prop} (e : Same G H) (tu : ∀ b o, H b = some o → ¬ isOwn o → G b = some o) (hc : cleanD w.1 w.2 = true) (h : ∀ Q : VK, (∀ v H', RetOk K H w v H' → Q v H') → t Q) : Res K G H w t := fun Q q => h Q fun v H' ⟨G', F, e1, e2, r, nd, fr, tu'⟩ => by
  refine q v H' (fun b => if (H b).isSome = true then G b else G' b) F ⟨fun b o h1 => ?_, fun b o h1 => ?_, e1.trans e2, fun b h1 h2 => ?_, nd, fun a ha => ?_, fun b o h1 h2 h3 => ?_⟩ ?_
  · have := e b o h1
    simp [this, h1]
  · split at h1
    · exact e2 b o (e1 b o (e b o h1))
    · exact e2 b o h1
  · have : (H b).isSome = true := by
      cases q : H b with
      | none => exact absurd q h2
      | some _ => rfl
    simp [this, h1]
  · have g := fr a ha
    have hn : H a = none := e1.free g
    exact ⟨hn, by simp [hn, g]⟩
  · simp [h1]
    exact tu' b o h2 h3
  · refine RO.move (fun b xs hn hq => ?_) _ _ _ _ hc r
    cases q : H b with
    | none => simp [q, hq]
    | some o' =>
      have := e1 b o' q
      rw [hq] at this
      cases this
      simp [q, tu b _ q hn]
theorem row_F (e : Same G H) : ∀ {us : List W} {xs : List V}, ROW K G H us xs → RepFs K H (us.map (·.2)) xs
  | [], _, h => h
  | u :: us, _, ⟨x, r, F, h1, h2, h3⟩ => ⟨x, r, h1, RO.toF e _ _ _ F (fun _ _ => rfl) h2, row_F e h3⟩
theorem RepFs.app {ds es : List D} {xs ys : List V} (h : RepFs K G ds xs) (q : RepFs K G es ys) : RepFs K G (ds ++ es) (xs ++ ys) := h.append q
/-- the call of an own def by its name: dd, dvs the defaults that fill up -/
def pFn (m : List D → Option W) (dd : List D) (A : Fa) : Fe := fun ρ => (A ρ).bind fun as => (getAll ρ as).bind fun us => (m (us.map (·.2) ++ dd)).map fun w => .v w.1 w.2
structure FnD (X : Cx) (k : Nat) (x : Str) (m : List D → Option W) (dd : List D) : Prop where
  ex : ∃ (f : Addr) (fd : FuncData) (ps : List Str) (dvs : List V) (dus : List Value), FnOk X.prog X.w X.K X.mg X.base CX0 k f fd ps (spD X.K m) ∧ X.mg x = some (.ref f) ∧ PySem.W.keepIn X.K (.ref f) = true ∧ Binds X.K fd ps dus ∧ Vals dvs dus ∧ ∀ H, RepFs X.K H dd dvs
  cl : ∀ ds w, m ds = some w → cleanD w.1 w.2 = true
theorem fn_imp {m : List D → Option W} {dd : List D} {dvs : List V} {B : Fa} (cl : ∀ ds w, m ds = some w → cleanD w.1 w.2 = true) (hd : ∀ H, RepFs K H dd dvs) (σ : L2.St) (H : Hp) (Q : VK) (h : tE K (pFn m dd B) σ H Q) : tCall (spD K m) dvs E0 (tA K B) σ H Q := by
  obtain ⟨G0, ρ, ws, a, I, hf, q⟩ := h
  obtain ⟨as, has, hf⟩ := Option.bind_eq_some_iff.mp hf
  obtain ⟨us, hus, hf⟩ := Option.bind_eq_some_iff.mp hf
  obtain ⟨w, hw, rfl⟩ := Option.map_eq_some_iff.mp hf
  refine ⟨G0, ρ, ws, as, I, has, fun vs H1 hl I1 => ?_⟩
  obtain ⟨G, F1, F2, J⟩ := I1
  have rr := row_F J.ex (J.rows hl hus)
  refine ret_res (t := fun Q => spD K m (vs ++ dvs) H1 Q E0) J.ex J.tu (cl _ _ hw) (fun Q q => ⟨_, w, rr.app (hd H1), hw, q⟩) Q fun v H' G' F' gr rv => ?_
  obtain ⟨F2', J'⟩ := Si.dropN _ J
  exact q v H' (J'.push gr rv).SI
theorem e_fn {k : Nat} {x : Str} {m : List D → Option W} {dd : List D} {B : Fa} {p : Pos} (F : FnD X k x m dd) (hr : Room k X.A) (hg : Gl X x) (ha : OkA X (e :: es) B) (hx : Passes CX0 X E0) (hdb : (x == ("__debug__" : Str)) = false := by decide)
    (he : starEach (e :: es) X.env = (false, eval e X.env) :: starEach es X.env := by rfl) (hpl : (backTo pos (starEach es X.env)).any (·.1) = false := by rfl) : OkE X (.Call (.Name x p) (e :: es) [] pos) (pFn m dd B) := by
  obtain ⟨f, fd, ps, dvs, dus, h1, h2, h3, h4, h5, h6⟩ := F.ex
  exact PE.imp (pe_call h1 hr hg h2 h3 h4 h5 hx ha hdb he hpl) (fn_imp F.cl h6)
end
section
variable {P : Program} {w : World} {K : PySem.W.Frag} {mg : Str → Option Value} {base : Heap}
def initE (n : Nat) (ds : List D) : Env := ds.map (fun d => some (0, d)) ++ List.replicate (n - ds.length) none
theorem RSl.nones {K : PySem.W.Frag} {G H : Hp} : ∀ (n : Nat) (σ : L2.St), RSl K G H σ (List.replicate n none) []
  | 0, σ => by cases σ <;> rfl
  | n + 1, [] => by rw [List.replicate_succ]; exact RSl.nones n []
  | n + 1, s :: σ => by rw [List.replicate_succ]; exact RSl.nones n σ
theorem RSl.init {K : PySem.W.Frag} {G H : Hp} {n : Nat} : ∀ {ds : List D} {vs : List V} {τ : L2.St}, RepFs K G ds vs → RSl K G H (vs.map some ++ τ) (ds.map (fun d => some (0, d)) ++ List.replicate n none) []
  | [], vs, τ, h => by rw [show vs = [] from h]; exact RSl.nones n τ
  | d :: ds, _, τ, ⟨x, r, h1, h2, h3⟩ => by subst h1; exact ⟨x, [], [], rfl, rfl, ⟨h2, rfl⟩, RSl.init h3⟩
theorem SI.init {N : List Str} {ds : List D} {vs : List V} {H : Hp} (r : RepFs K H ds vs) : SI K H (L2.start N vs) (initE N.length ds) [] H := by
  refine ⟨H, [], [], Same.refl _, Same.refl _, ?_, rfl, List.nodup_nil, (fun a ha => by cases ha), fun b o h _ => h, ?_⟩
  · exact RSl.init r
  · unfold L2.start initE
    simp [r.len]
/-- what a body gives -/
def retOf : Fl → Option W
  | .rt w => some w
  | .nx => some (0, .non)
  | _ => none
def runB (n : Nat) (f : Fs) (ds : List D) : Option W := (f (initE n ds)).bind fun p => retOf p.1
/-- THE RULE for a def: its body as data, what it is worth -/
theorem fnD {x qual : Str} {st : Stmt} {f : Addr} {fd : FuncData} {N ps : List Str} {k : Nat} {m : List D → Option W} {bd : Fs} (F : Fun K x qual st f fd) (S : FnScope N ps (defScope st)) (len : ∀ ds w, m ds = some w → ds.length = ps.length)
    (hb : ∀ (cdv : Value) (A : Around) (outer : List PySem.Env) (s : Shared) (H : Hp), Room k (A.deeper (envOfC qual (defScope st) s.heap.objs.size f cdv)) → OkB (cxOf CX0 P w K mg base N qual (defScope st) f cdv A outer s H E0).nox (defBody st) bd)
    (hm : ∀ ds w, m ds = some w → runB N.length bd ds = some w) : FnOk P w K mg base CX0 (k + 1) f fd ps (spD K m) := by
  refine F.ok S (fun vs H Q E h => ?_) (fun cdv A outer s H vs Q E hr h => ?_)
  · obtain ⟨ds, w, h1, h2, _⟩ := h
    rw [h1.len]; exact len ds w h2
  · obtain ⟨ds, w, h1, h2, q⟩ := h
    refine ⟨_, (hb cdv A outer s H hr : OkB _ _ _), ?_⟩
    have h3 := hm ds w h2
    unfold runB at h3
    obtain ⟨⟨fl, ρ'⟩, h4, h5⟩ := Option.bind_eq_some_iff.mp h3
    refine ⟨H, initE N.length ds, fl, ρ', SI.init h1, h4, ?_⟩
    cases fl with
    | rt w' => cases h5; exact fun v H' r => q v H' r
    | nx =>
      cases h5
      exact fun σ H' ⟨G, F1, F2, J⟩ => q _ H' ⟨G, [], J.ex0, J.ex, ⟨rfl, rfl⟩, List.nodup_nil, (fun a ha => by cases ha), J.tu⟩
    | bk => cases h5
    | ct => cases h5
end
end Pv
set_option Elab.async false
set_option linter.all false
set_option maxRecDepth 100000
/-! P10: enumerate and zip over lists and tuples in any mix -/
namespace Pv
open PySem PySem.Spec PyProof.Rows L2
/-- lists (true), tuples (false) -/
def Sq (K : PySem.W.Frag) (H : Hp) : Bool → Addr → List V → Prop
  | true, a, xs => SqL K H a xs
  | false, a, xs => SqT K H a xs
def IsI (h : Heap) : Bool → Addr → Addr → Nat → Prop
  | true, it, a, i => h.IsListIter it a i
  | false, it, a, i => h.IsTupleIter it a i
def IsQ (h : Heap) : Bool → Addr → Array Value → Prop
  | true, a, its => h.IsList a its
  | false, a, its => h.IsTuple a its
def iterO (b : Bool) (l : Addr) : Obj := { cls := .type (if b then "list_iterator" else "tuple_iterator"), data := .fields #[.ref l, .int 0 0] }
theorem IsI.obj {h : Heap} {b : Bool} {it a : Addr} {i : Nat} (e : IsI h b it a i) : ∃ o, h.get? it = some o ∧ ∀ v, o.data ≠ .cell v := by
  cases b
  · obtain ⟨o, ho, _, hd⟩ := e; exact ⟨o, ho, fun v q => by rw [hd] at q; cases q⟩
  · obtain ⟨o, ho, _, hd⟩ := e; exact ⟨o, ho, fun v q => by rw [hd] at q; cases q⟩
theorem IsI.at {h h' : Heap} {b : Bool} {it a : Addr} {i : Nat} (e : IsI h b it a i) (k : ∀ o, h.get? it = some o → h'.get? it = some o) : IsI h' b it a i := by
  cases b
  · exact Heap.IsTupleIter.at e k
  · exact Heap.IsListIter.at e k
theorem IsI.new {h : Heap} {b : Bool} {it a : Addr} (e : h.get? it = some (iterO b a)) : IsI h b it a 0 := by
  cases b
  · exact ⟨_, e, rfl, rfl⟩
  · exact ⟨_, e, rfl, rfl⟩
theorem IsQ.lt {h : Heap} {b : Bool} {a : Addr} {its : Array Value} (e : IsQ h b a its) : a < h.objs.size := by
  cases b
  · obtain ⟨o, ho, _⟩ := e; exact Heap.lt_size ho
  · obtain ⟨o, ho, _⟩ := e; exact Heap.lt_size ho
theorem draws {prog : Program} {w : World} {A : Around} (hh : A.handled = none) (b : Bool) (it l : Addr) (hne : l ≠ it) (its : Array Value) : Draws prog w A it [it, l] its.size (fun i v => its[i]? = some v) (fun i h => IsI h b it l i ∧ IsQ h b l its) := by
  cases b
  · exact Draws.tuple hh it l hne its
  · exact Draws.list hh it l hne its
theorem begins (b : Bool) (l : Addr) (its : Array Value) : Begins (.ref l) (iterO b l) fun h => IsQ h b l its := by
  cases b
  · exact begins_tuple l its
  · exact begins_list l its
section
variable {X : Cx} {pins : List (Addr × Obj)} {σ : L2.St} {H : Hp} {s : Shared} {a : Addr} {xs ys : List V}
theorem sq_at (I : Inv X pins σ H s) {b : Bool} (h : Sq X.K H b a xs) : ∃ its : List Value, Vals xs its ∧ IsQ s.heap b a its.toArray := by
  cases b
  · obtain ⟨its, r, p, _⟩ := I.tuple h; exact ⟨its, r, p⟩
  · obtain ⟨its, r, p, _⟩ := I.list h; exact ⟨its, r, p.isList⟩
theorem sq_inj (I : Inv X pins σ H s) {b : Bool} (h : Sq X.K H b a xs) (h' : Sq X.K H b a ys) : xs = ys := by
  cases b
  · exact I.tuple_inj h h'
  · exact I.list_inj h h'
end
/-! ### zip -/
def ItzG (K : PySem.W.Frag) (b c : Bool) (a d : Addr) : It :=
  ⟨fun i H => ∃ (xs ys : List V) (x y : V), Sq K H b a xs ∧ Sq K H c d ys ∧ xs[i]? = some x ∧ ys[i]? = some y,
    fun i H v H' => ∃ T x y, v = .ref T ∧ H T = none ∧ H' = upd H T (.tup [x, y]) ∧ (∀ xs, Sq K H b a xs → xs[i]? = some x) ∧ ∀ ys, Sq K H c d ys → ys[i]? = some y,
    fun i H => ∃ xs ys : List V, Sq K H b a xs ∧ Sq K H c d ys ∧ (xs.length = i ∧ i ≤ ys.length ∨ ys.length = i ∧ i ≤ xs.length)⟩
set_option maxHeartbeats 1000000 in
theorem turn_zipG {P : Program} {w : World} {K : PySem.W.Frag} {elts : List Expr} {kk : Nat} {tpos : Pos} {b c : Bool} {a d z TI TO i1 i2 : Addr} (D : ZipSep2 z TI TO i1 i2 [i1, a] [i2, d]) (h12 : i1 ≠ i2) (ha : a ≠ i1) (hd : d ≠ i2) :
    Turn P w K (.Tuple elts kk tpos) (ItzG K b c a d) [z, TI, TO, i1, i2] z (fun i h => IsZip h z TI TO .none ∧ IsTupOf2 h TI (.ref i1) (.ref i2) ∧ (∃ x y, IsTupOf2 h TO x y) ∧ IsI h b i1 a i ∧ IsI h c i2 d i) where
  mem := by simp
  obj := fun i h st e hc => by
    obtain ⟨hz, hTI, ⟨x, y, hTO⟩, h1, h2⟩ := st
    have e' : e = z ∨ e = TI ∨ e = TO ∨ e = i1 ∨ e = i2 := by simpa using hc
    rcases e' with q | q | q | q | q
    · rw [q]; exact ⟨_, hz, fun v q => nomatch q⟩
    · rw [q]; exact ⟨_, hTI, fun v q => nomatch q⟩
    · rw [q]; exact ⟨_, hTO, fun v q => nomatch q⟩
    · rw [q]; exact h1.obj
    · rw [q]; exact h2.obj
  keep := fun i h h' st k => by
    obtain ⟨hz, hTI, ⟨x, y, hTO⟩, h1, h2⟩ := st
    exact ⟨k z (by simp) _ hz, k TI (by simp) _ hTI, ⟨x, y, k TO (by simp) _ hTO⟩, h1.at fun o q => k i1 (by simp) o q, h2.at fun o q => k i2 (by simp) o q⟩
  item := by
    intro X hP hw hK hc i pins s σ H E I hf st hg
    subst hP hw hK
    obtain ⟨hz, hTI, ⟨x0, y0, hTO⟩, h1, h2⟩ := st
    obtain ⟨xs, ys, x, y, hqx, hqy, hx, hy⟩ := hg
    obtain ⟨its, rv, p⟩ := sq_at I hqx
    obtain ⟨its2, rv2, p2⟩ := sq_at I hqy
    obtain ⟨u, hu, ru⟩ := rv.get hx
    obtain ⟨u2, hu2, ru2⟩ := rv2.get hy
    have hzl : z < s.heap.objs.size := Heap.lt_size hz
    have hh : X.A.in1.handled = none := I.ok.hd hc
    refine wpAny_pyNext_zipD2_item D (draws hh b i1 a ha its.toArray) (draws hh c i2 d hd its2.toArray) hz hTI hTO ⟨h1, p⟩ ⟨h2, p2⟩
      (by have := (List.getElem?_eq_some_iff.mp hu).1; simpa using this) (by have := (List.getElem?_eq_some_iff.mp hu2).1; simpa using this) fun v1 v2 h' tk e1 e2 z' TO' st1' st2' hT hsz hk => ?_
    have e1 : v1 = u := by
      have e1' : its.toArray[i]? = some v1 := e1
      have : its[i]? = some v1 := by simpa using e1'
      rw [hu] at this; exact (Option.some.inj this).symm
    have e2 : v2 = u2 := by
      have e2' : its2.toArray[i]? = some v2 := e2
      have : its2[i]? = some v2 := by simpa using e2'
      rw [hu2] at this; exact (Option.some.inj this).symm
    subst e1 e2
    refine ⟨_, rfl, wpAny_letOwnedTupleGo_zip (s := { s with heap := h', toks := tk }) z' fun h'' z'' sb => ?_⟩
    have hT2 : h''.get? s.heap.objs.size = some { cls := .type "tuple", data := .seq #[v1, v2] } := (sb.2 _ (Nat.ne_of_gt hzl)).trans hT
    have new : ObjOk X.prog X.w (upd H s.heap.objs.size (.tup [x, y])) h'' s.heap.objs.size (.tup [x, y]) :=
      ⟨by show 2 ≤ sizeLine; decide, [v1, v2], .cons ru (.cons ru2 .nil), ⟨_, hT2, rfl, _, rfl⟩⟩
    have I1 : Inv X pins σ (upd H s.heap.objs.size (.tup [x, y])) { s with heap := h'', toks := tk } :=
      Inv.turnedNew (t' := tk) (ch := [z, TI, TO, i1, i2]) I (fun c o hb q => (sb.2 c (fun q' => hb (by simp [q']))).trans (hk c o (fun q' => hb (by simp [q'])) (fun q' => hb (by simp [q'])) (fun q' => hb (by simp [q'])) (fun q' => hb (by simp [q'])) q)) hf (Nat.le_refl _) new
    refine ⟨.ref s.heap.objs.size, _, I1, rfl, ⟨_, x, y, rfl, I.hok.fresh (Nat.le_refl _), rfl, fun l hl => by rw [sq_inj I hl hqx]; exact hx, fun l hl => by rw [sq_inj I hl hqy]; exact hy⟩, ⟨z'', ?_, ⟨v1, v2, ?_⟩, ?_, ?_⟩, fun c hcm => ?_⟩
    · exact (sb.2 _ D.TIz).trans (hk _ _ D.TIz D.TITO D.TIi1 D.TIi2 hTI)
    · exact (sb.2 _ D.TOz).trans TO'
    · exact st1'.1.at fun o q => (sb.2 _ D.zi1.symm).trans q
    · exact st2'.1.at fun o q => (sb.2 _ D.zi2.symm).trans q
    · have hlt : c < s.heap.objs.size := by
        have e' : c = z ∨ c = TI ∨ c = TO ∨ c = i1 ∨ c = i2 := by simpa using hcm
        rcases e' with q | q | q | q | q
        · rw [q]; exact hzl
        · rw [q]; exact Heap.lt_size hTI
        · rw [q]; exact Heap.lt_size hTO
        · rw [q]; obtain ⟨_, e1, _⟩ := h1.obj; exact Heap.lt_size e1
        · rw [q]; obtain ⟨_, e2, _⟩ := h2.obj; exact Heap.lt_size e2
      rw [upd_ne (Nat.ne_of_lt hlt)]
      exact (hf c hcm).1
  done := by
    intro X hP hw hK hc i pins s σ H E I hf st hg
    subst hP hw hK
    obtain ⟨hz, hTI, ⟨x0, y0, hTO⟩, h1, h2⟩ := st
    obtain ⟨xs, ys, hqx, hqy, hend⟩ := hg
    obtain ⟨its, rv, p⟩ := sq_at I hqx
    obtain ⟨its2, rv2, p2⟩ := sq_at I hqy
    have l1 := rv.length
    have l2 := rv2.length
    have hh : X.A.in1.handled = none := I.ok.hd hc
    exact wpAny_pyNext_zipD2_end D (draws hh b i1 a ha its.toArray) (draws hh c i2 d hd its2.toArray) hz hTI hTO ⟨h1, p⟩ ⟨h2, p2⟩ (by simp; omega) (by simp; omega) (by simp; omega) fun h' tk hk => ⟨rfl, Inv.turnedL (t' := tk) (ch := [z, TI, TO, i1, i2]) I (fun c o hb q =>
      hk c o (fun q' => hb (by simp [q'])) (fun q' => hb (by simp [q'])) (fun q' => hb (by simp [q'])) (fun q' => hb (by simp [q'])) q) hf⟩
  self := fun A i s Q E st h => wpAny_pyIter_zip st.1 h
def iZipG (K : PySem.W.Frag) (ta : TA) : L2.TI := fun σ H R => ta σ H fun vs H1 => ∃ b c a d xs ys, vs = [.ref a, .ref d] ∧ Sq K H1 b a xs ∧ Sq K H1 c d ys ∧ R (ItzG K b c a d) H1
theorem pi_zipG {X : Cx} {e e2 : Expr} {ta : TA} {p pos tpos : Pos} {elts : List Expr} {kk : Nat} (hg : Gl X "zip") (hm : X.mg "zip" = none) (ha : PA X [e, e2] ta)
    (hs : starEach [e, e2] X.env = (false, eval e X.env) :: starEach [e2] X.env := by rfl) (hpl : (backTo pos (starEach [e2] X.env)).any (·.1) = false := by rfl) :
    PI X (.Tuple elts kk tpos) (.Call (.Name "zip" p) [e, e2] [] pos) (iZipG X.K ta) := by
  refine ⟨fun pins s σ H R I h => ?_⟩
  refine Call_ (ld_blt I hg hm PyProof.Rows.boot_zip (PyProof.Rows.callWith_type1 (thn (ha.run pos pins s σ H _ I h) fun us s1 ⟨vs, H1, I1, r1, q1⟩ => ?_) hs hpl))
  obtain ⟨b, c, a, d, xs, ys, ex, hqx, hqy, q⟩ := q1
  subst ex
  cases r1 with
  | cons r rr =>
    cases rr with
    | cons r' rr =>
      cases rr
      cases r
      cases r'
      obtain ⟨its, rv, p1⟩ := sq_at I1 hqx
      obtain ⟨its2, rv2, p2⟩ := sq_at I1 hqy
      refine zip_begins2 (begins b a its.toArray) (begins c d its2.toArray) p1 p2 fun h' hz hTI hTO h1 h2 hsz hk => wpAny_pyIter_zip hz ?_
      have I2 : Inv X pins σ H1 { s1 with heap := h' } := I1.kept (t' := s1.toks) hk
      have la := p1.lt
      have ld := p2.lt
      refine ⟨s1.heap.objs.size + 4, [s1.heap.objs.size + 4, s1.heap.objs.size + 2, s1.heap.objs.size + 3, s1.heap.objs.size, s1.heap.objs.size + 1], _, _, H1, rfl, I2,
        turn_zipG (zip_sep2 (fun b hb => by rw [List.mem_singleton.mp hb]; exact la) (fun b hb => by rw [List.mem_singleton.mp hb]; exact ld)) (Nat.ne_of_lt (Nat.lt_succ_self _)) (Nat.ne_of_lt la) (Nat.ne_of_lt (Nat.lt_succ_of_lt ld)),
        ⟨hz, hTI, ⟨_, _, hTO⟩, IsI.new h1, IsI.new h2⟩, fun c hcm => ?_, q⟩
      have e' : c = s1.heap.objs.size + 4 ∨ c = s1.heap.objs.size + 2 ∨ c = s1.heap.objs.size + 3 ∨ c = s1.heap.objs.size ∨ c = s1.heap.objs.size + 1 := by simpa using hcm
      have hle : s1.heap.objs.size ≤ c := by
        rcases e' with z | z | z | z | z
        · rw [z]; exact Nat.le_add_right _ _
        · rw [z]; exact Nat.le_add_right _ _
        · rw [z]; exact Nat.le_add_right _ _
        · rw [z]; exact Nat.le_refl _
        · rw [z]; exact Nat.le_add_right _ _
      exact I1.fpOk hle (I1.hok.fresh hle)
/-! ### enumerate -/
def IteG (K : PySem.W.Frag) (b : Bool) (a : Addr) : It :=
  ⟨fun i H => ∃ (xs : List V) (x : V), Sq K H b a xs ∧ xs[i]? = some x, fun i H v H' => ∃ T x, v = .ref T ∧ H T = none ∧ H' = upd H T (.tup [.int (i : Nat), x]) ∧ ∀ xs, Sq K H b a xs → xs[i]? = some x, fun i H => ∃ xs : List V, Sq K H b a xs ∧ xs.length = i⟩
set_option maxHeartbeats 1000000 in
theorem turn_enumG {P : Program} {w : World} {K : PySem.W.Frag} {elts : List Expr} {kk : Nat} {tpos : Pos} (b : Bool) (a e it : Addr) (hei : e ≠ it) (hea : e ≠ a) (hai : a ≠ it) :
    Turn P w K (.Tuple elts kk tpos) (IteG K b a) [e, it] e (fun i h => (∃ old, IsEnum h e it ((i : Nat) : Int) old) ∧ IsI h b it a i) where
  mem := by simp
  obj := fun i h st c hb => by
    obtain ⟨⟨old, he⟩, hi⟩ := st
    have e' : c = e ∨ c = it := by simpa using hb
    rcases e' with z | z
    · rw [z]; exact ⟨_, he, fun v q => nomatch q⟩
    · rw [z]; exact hi.obj
  keep := fun i h h' st k => let ⟨⟨old, he⟩, hi⟩ := st; ⟨⟨old, k e (by simp) _ he⟩, hi.at fun o q => k it (by simp) o q⟩
  item := by
    intro X hP hw hK hc i pins s σ H E I hf st hg
    subst hP hw hK
    obtain ⟨⟨old, he⟩, hit⟩ := st
    obtain ⟨xs, x, hq, hx⟩ := hg
    obtain ⟨its, rv, p⟩ := sq_at I hq
    obtain ⟨u, hu, ru⟩ := rv.get hx
    have hel : e < s.heap.objs.size := Heap.lt_size he
    have hil : it < s.heap.objs.size := by obtain ⟨_, q, _⟩ := hit.obj; exact Heap.lt_size q
    have hh : X.A.in1.handled = none := I.ok.hd hc
    refine wpAny_pyNext_enum_itemC (draws hh b it a hai its.toArray) he ⟨hit, p⟩ (by have := (List.getElem?_eq_some_iff.mp hu).1; simpa using this) hei (by simp [hei, hea]) fun v h' tk e1 ho st' hT hsz hk => ?_
    have e1 : v = u := by
      have e1' : its.toArray[i]? = some v := e1
      have : its[i]? = some v := by simpa using e1'
      rw [hu] at this; exact (Option.some.inj this).symm
    subst e1
    refine ⟨_, rfl, wpAny_letOwnedTupleGo_enum (s := { s with heap := h', toks := tk + 1 }) ho fun h'' he' sb => ?_⟩
    have hT2 : h''.get? s.heap.objs.size = some { cls := .type "tuple", data := .seq #[.int i tk, v] } := (sb.2 _ (Nat.ne_of_gt hel)).trans hT
    have new : ObjOk X.prog X.w (upd H s.heap.objs.size (.tup [.int (i : Nat), x])) h'' s.heap.objs.size (.tup [.int (i : Nat), x]) :=
      ⟨by show 2 ≤ sizeLine; decide, [.int i tk, v], .cons ⟨_, rfl⟩ (.cons ru .nil), ⟨_, hT2, rfl, _, rfl⟩⟩
    have I1 : Inv X pins σ (upd H s.heap.objs.size (.tup [.int (i : Nat), x])) { s with heap := h'', toks := tk + 1 } :=
      Inv.turnedNew (t' := tk + 1) (ch := [e, it]) I (fun b ob hb q => (sb.2 b (fun z => hb (by simp [z]))).trans (hk b ob (fun z => hb (by simp [z])) (fun z => hb (by simp [z])) q)) hf (Nat.le_refl _) new
    refine ⟨.ref s.heap.objs.size, _, I1, rfl, ⟨_, x, rfl, I.hok.fresh (Nat.le_refl _), rfl, fun ys hy => by rw [sq_inj I hy hq]; exact hx⟩, ⟨⟨v, ?_⟩, st'.1.at fun o q => (sb.2 it (Ne.symm hei)).trans q⟩, fun b hb => ?_⟩
    · have e1 : ((i + 1 : Nat) : Int) = (i : Int) + 1 := by omega
      rw [e1]; exact he'
    · have hb' : b < s.heap.objs.size := by
        have e' : b = e ∨ b = it := by simpa using hb
        rcases e' with z | z
        · rw [z]; exact hel
        · rw [z]; exact hil
      rw [upd_ne (Nat.ne_of_lt hb')]
      exact (hf b hb).1
  done := by
    intro X hP hw hK hc i pins s σ H E I hf st hg
    subst hP hw hK
    obtain ⟨⟨old, he⟩, hit⟩ := st
    obtain ⟨xs, hq, hx⟩ := hg
    obtain ⟨its, rv, p⟩ := sq_at I hq
    obtain ⟨f0, f1, f2, f3, f4, f5⟩ := hf it (by simp)
    have hl := rv.length
    have hh : X.A.in1.handled = none := I.ok.hd hc
    have ei : its.toArray.size = i := by simp; omega
    exact wpAny_pyNext_enum_endD (draws hh b it a hai its.toArray) he (by rw [ei]; exact ⟨hit, p⟩) fun h' eb => ⟨rfl, I.turned (t' := s.toks) (fun b o hb q => eb b o hb q) f0 f1 f3 f4 f5⟩
  self := fun A i s Q E st h => let ⟨⟨_, he⟩, _⟩ := st; wpAny_pyIter_enum he h
set_option maxHeartbeats 1000000 in
theorem meets_enum1 {v : Value} {o : Obj} {H : Heap → Prop} (B : Begins v o H) :
    Meets (Builtin.«enumerate.__new__» ⟨[.type "enumerate", v], []⟩) (fun _ R s => H s.heap ∧
      R (.ok (.ret (.ref (s.heap.push o).objs.size))) { s with heap := (s.heap.push o).push { cls := .type "enumerate", data := .fields #[.none, .bool false, .ref s.heap.objs.size, rawInt 0, .none, .none] } }) :=
  .of_wp fun prog w A R s h => by
    obtain ⟨hp, g, d, tk, os⟩ := s; obtain ⟨h1, h⟩ := h
    have hsub := sub_enumerate
    have q1 : ∀ {A' : Around} {E : Value → Shared → Prop} {Q : Value → Shared → Prop}, Q (.ref hp.objs.size) ⟨hp.push o, g, d, tk, os⟩ → wpAny (model prog w) A' (pyIter v) Q E ⟨hp, g, d, tk, os⟩ :=
      fun q => B.iter prog w _ _ ⟨hp, g, d, tk, os⟩ _ h1 q
    wp_walk using q1
    refine wpAny_stack_any fun st => wpAny_pure ?_
    split
    · rename_i c _ _ _ _ _
      cases (c == Value.type "enumerate")
      · wp_walk using q1
        exact ⟨_, rfl, h⟩
      · wp_walk using q1
        exact ⟨_, rfl, h⟩
    · wp_walk using q1
      exact ⟨_, rfl, h⟩
theorem enum1_begins {prog : Program} {w : World} {A : Around} {E : Value → Shared → Prop} {s : Shared} {v : Value} {o : Obj} {H : Heap → Prop} {Q : Value → Shared → Prop} (B : Begins v o H) (h1 : H s.heap)
    (h : ∀ h', IsEnum h' (s.heap.objs.size + 1) s.heap.objs.size 0 .none → h'.get? s.heap.objs.size = some o → h'.objs.size = s.heap.objs.size + 2 →
      (∀ b o, s.heap.get? b = some o → h'.get? b = some o) → Q (.ref (s.heap.objs.size + 1)) { s with heap := h' }) :
    wpAny (model prog w) A (call (.type "enumerate") [v]) Q E s := by
  refine callType_new F.called_enumerate (by decide) (F.typeCall_enumerate_1 _) (F.newCall_enumerate_1 _) (fun obj => F.args_object_init_2 obj _) F.entry_enumerate_new
    (meets_enum1 B) ⟨h1, ?_⟩
  have hz : (s.heap.push o).objs.size = s.heap.objs.size + 1 := Heap.size_push ..
  show _ ∧ _
  rw [hz]
  have he : IsEnum ((s.heap.push o).push { cls := .type "enumerate", data := .fields #[.none, .bool false, .ref s.heap.objs.size, rawInt 0, .none, .none] }) (s.heap.objs.size + 1) s.heap.objs.size 0 .none := by
    have := Heap.get?_push_size (s.heap.push o) (o := { cls := .type "enumerate", data := .fields #[.none, .bool false, .ref s.heap.objs.size, rawInt 0, .none, .none] }) rfl
    rw [hz] at this; exact this
  refine ⟨⟨_, he, rfl⟩, h _ he (Heap.get?_push_of_some _ (Heap.get?_push_size _ B.free)) (by rw [Heap.size_push, hz]) fun b o x => Heap.get?_push_of_some _ (Heap.get?_push_of_some _ x)⟩
def iEnumG (K : PySem.W.Frag) (ta : TA) : L2.TI := fun σ H R => ta σ H fun vs H1 => ∃ b a xs, vs = [.ref a] ∧ Sq K H1 b a xs ∧ R (IteG K b a) H1
theorem pi_enumG {X : Cx} {e : Expr} {ta : TA} {p pos tpos : Pos} {elts : List Expr} {kk : Nat} (hg : Gl X "enumerate") (hm : X.mg "enumerate" = none) (ha : PA X [e] ta) (hs : starEach [e] X.env = [(false, eval e X.env)] := by rfl) :
    PI X (.Tuple elts kk tpos) (.Call (.Name "enumerate" p) [e] [] pos) (iEnumG X.K ta) := by
  refine ⟨fun pins s σ H R I h => ?_⟩
  refine Call_ (ld_blt I hg hm boot_enumerate (PyProof.Rows.callWith_type1 (thn (ha.run pos pins s σ H _ I h) fun us s1 ⟨vs, H1, I1, r1, q1⟩ => ?_) hs rfl))
  obtain ⟨b, a, xs, ex, hq, q⟩ := q1
  subst ex
  cases r1 with
  | cons r rr =>
    cases rr
    cases r
    obtain ⟨its, rv, p'⟩ := sq_at I1 hq
    refine enum1_begins (begins b a its.toArray) p' fun h' he hit hsz hk => wpAny_pyIter_enum he ?_
    have I2 : Inv X pins σ H1 { s1 with heap := h' } := I1.kept (t' := s1.toks) hk
    have la := p'.lt
    refine ⟨s1.heap.objs.size + 1, [s1.heap.objs.size + 1, s1.heap.objs.size], _, _, H1, rfl, I2, turn_enumG b a (s1.heap.objs.size + 1) s1.heap.objs.size (Nat.succ_ne_self _) (Nat.ne_of_gt (Nat.lt_succ_of_lt la)) (Nat.ne_of_lt la), ⟨⟨.none, he⟩, IsI.new hit⟩, fun b hb => ?_, q⟩
    have e' : b = s1.heap.objs.size + 1 ∨ b = s1.heap.objs.size := by simpa using hb
    have hle : s1.heap.objs.size ≤ b := by
      rcases e' with z | z
      · rw [z]; exact Nat.le_add_right _ _
      · rw [z]; exact Nat.le_refl _
    exact I1.fpOk hle (I1.hok.fresh hle)
end Pv
set_option Elab.async false
set_option linter.all false
set_option maxRecDepth 100000
/-! P11: enumerate, zip over data; dicts -/
namespace Pv
open PySem PySem.Spec PyProof.Rows L2
section
variable {X : Cx} {K : PySem.W.Frag} {G0 G G1 G' H H' : Hp} {σ : L2.St} {ρ : Env} {ws : List (V × Arg)} {F F1 F2 : List Addr} {e a b c tg : Expr} {es : List Expr} {pos : Pos} {A B C : Fe}
/-! ### enumerate, zip -/
def seqD : D → Option (Bool × List D)
  | .lst ds => some (true, ds)
  | .tup ds => some (false, ds)
  | .ktp ds => some (false, ds)
  | _ => none
theorem seqD_rep {d : D} {v : V} {b : Bool} {ds : List D} (h : seqD d = some (b, ds)) (r : RepF K G d v) : ∃ a xs, v = .ref a ∧ Sq K G b a xs ∧ RepFs K G ds xs := by
  cases d <;> first | (cases h; done) | skip
  · cases h; obtain ⟨a, xs, h1, h2, h3⟩ := r; exact ⟨a, xs, h1, SqT.of h2, h3⟩
  · cases h; obtain ⟨a, xs, h1, h2, h3⟩ := r; exact ⟨a, xs, h1, SqL.of h2, h3⟩
  · cases h; obtain ⟨a, xs, h1, h2, h3⟩ := r; exact ⟨a, xs, h1, h2.sq, h3⟩
theorem same_q (e : Same G G') {b : Bool} {a : Addr} {xs : List V} (h : Sq K G b a xs) : Sq K G' b a xs := by
  cases b
  · exact same_t e h
  · exact same_l e h
def enumF : Nat → List D → List D
  | _, [] => []
  | i, d :: ds => .tup [.int (i : Nat), d] :: enumF (i + 1) ds
def zipF : List D → List D → List D
  | d :: ds, c :: cs => .tup [d, c] :: zipF ds cs
  | _, _ => []
theorem enumF_len : ∀ (i : Nat) (ds : List D), (enumF i ds).length = ds.length
  | _, [] => rfl
  | i, d :: ds => by rw [enumF, List.length_cons, List.length_cons, enumF_len]
theorem enumF_get : ∀ (i j : Nat) (ds : List D) (d : D), ds[j]? = some d → (enumF i ds)[j]? = some (.tup [.int ((i + j : Nat) : Int), d])
  | i, 0, d' :: ds, d, h => by simp at h; subst h; rfl
  | i, j + 1, d' :: ds, d, h => by
    have := enumF_get (i + 1) j ds d (by simpa using h)
    rw [enumF, List.getElem?_cons_succ, this]
    congr 4
    omega
  | i, j, [], d, h => by simp at h
theorem zipF_len : ∀ (ds cs : List D), (zipF ds cs).length = min ds.length cs.length
  | [], cs => by simp [zipF]
  | d :: ds, [] => by simp [zipF]
  | d :: ds, c :: cs => by simp [zipF, zipF_len ds cs]
theorem zipF_get : ∀ (j : Nat) (ds cs : List D) (d c : D), ds[j]? = some d → cs[j]? = some c → (zipF ds cs)[j]? = some (.tup [d, c])
  | 0, d' :: ds, c' :: cs, d, c, h, q => by simp at h q; subst h q; rfl
  | j + 1, d' :: ds, c' :: cs, d, c, h, q => by
    rw [zipF, List.getElem?_cons_succ]
    exact zipF_get j ds cs d c (by simpa using h) (by simpa using q)
  | j, [], cs, d, c, h, q => by simp at h
  | j, d' :: ds, [], d, c, h, q => by simp at q
theorem Grow.rep_tup {p : Addr} {ds : List D} {xs : List V} (e : Same G H) (hp : H p = none) (r : RepFs K G ds xs) : RepF K (upd G p (.tup xs)) (.tup ds) (.ref p) := by
  have g := Grow.newF (o := .tup xs) e hp
  exact ⟨p, xs, rfl, upd_same, RepFs.mono g.gg _ _ r⟩
theorem Items.enumF {a : Addr} {ds : List D} {xs : List V} {G1 : Hp} {bb : Bool} (h : Sq K G1 bb a xs) (r : RepFs K G1 ds xs) : Items K (IteG K bb a) (enumF 0 ds) (fun G H => Same G1 G ∧ Same G H) where
  goes := fun i G H hi ⟨e1, e2⟩ => by
    rw [enumF_len] at hi
    exact ⟨xs, xs[i]'(by rw [r.len]; exact hi), same_q e2 (same_q e1 h), by simp [r.len, hi]⟩
  stops := fun G H ⟨e1, e2⟩ => ⟨xs, same_q e2 (same_q e1 h), by rw [r.len, enumF_len]⟩
  yields := fun i G H x H' hi ⟨e1, e2⟩ ⟨T, y, hv, hT, hH, hx⟩ => by
    rw [enumF_len] at hi
    subst hv hH
    have hd := List.getElem?_eq_getElem hi
    obtain ⟨z, h1, h2⟩ := (RepFs.mono e1 _ _ r).get hd
    have := hx xs (same_q e2 (same_q e1 h))
    rw [h1] at this
    cases this
    refine ⟨_, .tup [.int ((0 + i : Nat) : Int), ds[i]], Grow.newF (o := .tup _) e2 hT, enumF_get 0 i ds _ hd, ?_⟩
    refine Grow.rep_tup e2 hT ⟨_, _, rfl, ?_, _, [], rfl, h2, rfl⟩
    show V.int _ = V.int _
    simp
theorem Items.zipF {a d : Addr} {ds cs : List D} {xs ys : List V} {G1 : Hp} {b1 b2 : Bool} (h : Sq K G1 b1 a xs) (r : RepFs K G1 ds xs) (h' : Sq K G1 b2 d ys) (r' : RepFs K G1 cs ys) : Items K (ItzG K b1 b2 a d) (zipF ds cs) (fun G H => Same G1 G ∧ Same G H) where
  goes := fun i G H hi ⟨e1, e2⟩ => by
    rw [zipF_len] at hi
    exact ⟨xs, ys, xs[i]'(by rw [r.len]; omega), ys[i]'(by rw [r'.len]; omega), same_q e2 (same_q e1 h), same_q e2 (same_q e1 h'), List.getElem?_eq_getElem _, List.getElem?_eq_getElem _⟩
  stops := fun G H ⟨e1, e2⟩ => ⟨xs, ys, same_q e2 (same_q e1 h), same_q e2 (same_q e1 h'), by rw [r.len, r'.len, zipF_len]; omega⟩
  yields := fun i G H x H' hi ⟨e1, e2⟩ ⟨T, y, z, hv, hT, hH, hx, hy⟩ => by
    rw [zipF_len] at hi
    subst hv hH
    have hi1 : i < ds.length := by omega
    have hi2 : i < cs.length := by omega
    have hd := List.getElem?_eq_getElem hi1
    have hc := List.getElem?_eq_getElem hi2
    obtain ⟨z1, h1, h2⟩ := (RepFs.mono e1 _ _ r).get hd
    obtain ⟨z2, h3, h4⟩ := (RepFs.mono e1 _ _ r').get hc
    have t1 := hx xs (same_q e2 (same_q e1 h))
    have t2 := hy ys (same_q e2 (same_q e1 h'))
    rw [h1] at t1; rw [h3] at t2
    cases t1; cases t2
    exact ⟨_, .tup [ds[i], cs[i]], Grow.newF (o := .tup _) e2 hT, zipF_get i ds cs _ _ hd hc, Grow.rep_tup e2 hT ⟨_, _, rfl, h2, _, [], rfl, h4, rfl⟩⟩
/-- the arguments of a call, all frozen -/
theorem args_frozen {f : Fa} {G0 : Hp} {ρ : Env} {as : List Arg} {ds : List D} {Q : List V → Hp → Prop} (I : SI K G0 σ ρ ws H) (hf : f ρ = some as) (ho : ownAll as = some ds)
    (q : ∀ vs H1 G F1 F2, Si K G0 σ ρ ws H1 G F1 F2 → RepFs K G ds vs → Q vs H1) : tA K f σ H Q :=
  ⟨G0, ρ, ws, as, I, hf, fun vs H1 hl I1 => by
    obtain ⟨G, F1, F2, J⟩ := I1
    obtain ⟨F3, J⟩ := Si.perm ((List.reverse_perm _).append_right ws) J
    obtain ⟨G1, F4, J1, e1, r1⟩ := Si.freezeN as vs ds hl ho J
    exact q vs H1 G1 F1 F4 J1 r1⟩
def iEnum (A : Fe) : Fit := fun ρ => (aCons A aNil ρ).bind fun as => (ownAll as).bind fun ds => match ds with
  | [d] => (seqD d).map fun p => enumF 0 p.2
  | _ => none
def iZip (A B : Fe) : Fit := fun ρ => (aCons A (aCons B aNil) ρ).bind fun as => (ownAll as).bind fun ds => match ds with
  | [d, c] => (seqD d).bind fun p => (seqD c).map fun q => zipF p.2 q.2
  | _ => none
theorem i_enum {p tpos : Pos} {elts : List Expr} {kk : Nat} (hg : Gl X "enumerate") (hm : X.mg "enumerate" = none) (ha : OkE X a A) (hs : starEach [a] X.env = [(false, eval a X.env)] := by rfl) : OkI X (.Tuple elts kk tpos) (.Call (.Name "enumerate" p) [a] [] pos) (iEnum A) :=
  PI.imp (pi_enumG (ta := tA X.K (aCons A aNil)) hg hm (a_cons ha a_nil hs) hs) fun σ H R ⟨G0, ρ, ds, I, hf, q⟩ => by
  obtain ⟨as, has, hf⟩ := Option.bind_eq_some_iff.mp hf
  obtain ⟨cs, hcs, hf⟩ := Option.bind_eq_some_iff.mp hf
  split at hf
  · obtain ⟨⟨bb, es⟩, hq, rfl⟩ := Option.map_eq_some_iff.mp hf
    refine args_frozen I has hcs fun vs H1 G F1 F2 J r => ?_
    obtain ⟨v, vs, rfl, r1, rfl⟩ := r
    obtain ⟨x, xs, rfl, h2, h3⟩ := seqD_rep hq r1
    exact ⟨bb, x, xs, rfl, same_q J.ex h2, q _ H1 G J.ex0 J.up (Items.enumF h2 h3)⟩
  · cases hf
theorem i_zip {p tpos : Pos} {elts : List Expr} {kk : Nat} (hg : Gl X "zip") (hm : X.mg "zip" = none) (ha : OkE X a A) (hb : OkE X b B) (hs : starEach [a, b] X.env = (false, eval a X.env) :: starEach [b] X.env := by rfl) (hs2 : starEach [b] X.env = [(false, eval b X.env)] := by rfl)
    (hpl : (backTo pos (starEach [b] X.env)).any (·.1) = false := by rfl) : OkI X (.Tuple elts kk tpos) (.Call (.Name "zip" p) [a, b] [] pos) (iZip A B) :=
  PI.imp (pi_zipG (ta := tA X.K (aCons A (aCons B aNil))) hg hm (a_cons ha (a_cons hb a_nil hs2) hs) hs hpl) fun σ H R ⟨G0, ρ, ds, I, hf, q⟩ => by
  obtain ⟨as, has, hf⟩ := Option.bind_eq_some_iff.mp hf
  obtain ⟨cs, hcs, hf⟩ := Option.bind_eq_some_iff.mp hf
  split at hf
  · obtain ⟨⟨b1, es⟩, hq, hf⟩ := Option.bind_eq_some_iff.mp hf
    obtain ⟨⟨b2, fs⟩, hq2, rfl⟩ := Option.map_eq_some_iff.mp hf
    refine args_frozen I has hcs fun vs H1 G F1 F2 J r => ?_
    obtain ⟨v, vs, rfl, r1, v2, vs2, rfl, r2, rfl⟩ := r
    obtain ⟨x, xs, rfl, h2, h3⟩ := seqD_rep hq r1
    obtain ⟨y, ys, rfl, h4, h5⟩ := seqD_rep hq2 r2
    exact ⟨b1, b2, x, y, xs, ys, rfl, same_q J.ex h2, same_q J.ex h4, q _ H1 G J.ex0 J.up (Items.zipF h2 h3 h4 h5)⟩
  · cases hf
/-- the same for comprehensions -/
theorem c_enum {p tpos : Pos} {elts : List Expr} {kk : Nat} (hg : Gl X "enumerate") (hm : X.mg "enumerate" = none) (ha : OkE X a A) (hs : starEach [a] X.env = [(false, eval a X.env)] := by rfl) : OkIc X (.Tuple elts kk tpos) (.Call (.Name "enumerate" p) [a] [] pos) (iEnum A) :=
  PI.imp (pi_enumG (ta := tA X.K (aCons A aNil)) hg hm (a_cons ha a_nil hs) hs) fun σ H R ⟨G0, ρ, ws, ds, I, hf, q⟩ => by
  obtain ⟨as, has, hf⟩ := Option.bind_eq_some_iff.mp hf
  obtain ⟨cs, hcs, hf⟩ := Option.bind_eq_some_iff.mp hf
  split at hf
  · obtain ⟨⟨bb, es⟩, hq, rfl⟩ := Option.map_eq_some_iff.mp hf
    refine args_frozen I has hcs fun vs H1 G F1 F2 J r => ?_
    obtain ⟨v, vs, rfl, r1, rfl⟩ := r
    obtain ⟨x, xs, rfl, h2, h3⟩ := seqD_rep hq r1
    exact ⟨bb, x, xs, rfl, same_q J.ex h2, q _ H1 G J.ex0 J.up (Items.enumF h2 h3).toC⟩
  · cases hf
theorem c_zip {p tpos : Pos} {elts : List Expr} {kk : Nat} (hg : Gl X "zip") (hm : X.mg "zip" = none) (ha : OkE X a A) (hb : OkE X b B) (hs : starEach [a, b] X.env = (false, eval a X.env) :: starEach [b] X.env := by rfl) (hs2 : starEach [b] X.env = [(false, eval b X.env)] := by rfl)
    (hpl : (backTo pos (starEach [b] X.env)).any (·.1) = false := by rfl) : OkIc X (.Tuple elts kk tpos) (.Call (.Name "zip" p) [a, b] [] pos) (iZip A B) :=
  PI.imp (pi_zipG (ta := tA X.K (aCons A (aCons B aNil))) hg hm (a_cons ha (a_cons hb a_nil hs2) hs) hs hpl) fun σ H R ⟨G0, ρ, ws, ds, I, hf, q⟩ => by
  obtain ⟨as, has, hf⟩ := Option.bind_eq_some_iff.mp hf
  obtain ⟨cs, hcs, hf⟩ := Option.bind_eq_some_iff.mp hf
  split at hf
  · obtain ⟨⟨b1, es⟩, hq, hf⟩ := Option.bind_eq_some_iff.mp hf
    obtain ⟨⟨b2, fs⟩, hq2, rfl⟩ := Option.map_eq_some_iff.mp hf
    refine args_frozen I has hcs fun vs H1 G F1 F2 J r => ?_
    obtain ⟨v, vs, rfl, r1, v2, vs2, rfl, r2, rfl⟩ := r
    obtain ⟨x, xs, rfl, h2, h3⟩ := seqD_rep hq r1
    obtain ⟨y, ys, rfl, h4, h5⟩ := seqD_rep hq2 r2
    exact ⟨b1, b2, x, y, xs, ys, rfl, same_q J.ex h2, same_q J.ex h4, q _ H1 G J.ex0 J.up (Items.zipF h2 h3 h4 h5).toC⟩
  · cases hf
/-! ### dicts: reading -/
def keyK : D → Option Key
  | .int i => some (.inl i)
  | .str s => some (.inr s)
  | _ => none
def keysK : List D → Option (List Key)
  | [] => some []
  | d :: ds => (keyK d).bind fun k => (keysK ds).map fun ks => k :: ks
def keyD : Bool → D → Option (List Key)
  | false, d => (keyK d).map fun k => [k]
  | true, .tup ds => keysK ds
  | true, _ => none
theorem keyK_rep {k : Nat} {d : D} {v : V} {κ : Key} (h : keyK d = some κ) (r : RO K G H k d v F) : v = kV κ := by
  cases d <;> first | (cases h; done) | skip
  · cases h; exact r.int
  · cases h; exact r.str
theorem keysK_rep : ∀ {ds : List D} {xs : List V} {ks : List Key}, keysK ds = some ks → RepFs K G ds xs → xs = ks.map kV
  | [], _, _, h, r => by cases h; exact r
  | d :: ds, _, _, h, ⟨x, r, h1, h2, h3⟩ => by
    obtain ⟨k, hk, h⟩ := Option.bind_eq_some_iff.mp h
    obtain ⟨ks, hks, rfl⟩ := Option.map_eq_some_iff.mp h
    have e1 : x = kV k := keyK_rep (K := K) (G := G) (H := G) (k := 0) (F := []) hk ⟨h2, rfl⟩
    have e2 := keysK_rep hks h3
    subst h1 e1 e2
    rfl
def valD : List (List Key × D) → List Key → Option D
  | [], _ => none
  | p :: r, k => if p.1 = k then some p.2 else valD r k
theorem valD_some : ∀ {kvs : List (List Key × D)} {xs : List (List Key × V)} {k : List Key} {d : D}, RepFk K G kvs xs → valD kvs k = some d → ∃ x, valV xs k = some x ∧ RepF K G d x
  | [], _, _, _, _, h => by cases h
  | (k', d') :: r, _, k, d, ⟨x, xs, h1, h2, h3⟩, h => by
    subst h1
    unfold valD at h
    split at h
    · rename_i e
      cases h
      exact ⟨x, valV_pos e, h2⟩
    · rename_i e
      rw [valV_neg e]
      exact valD_some h3 h
theorem valD_none : ∀ {kvs : List (List Key × D)} {xs : List (List Key × V)} {k : List Key}, RepFk K G kvs xs → valD kvs k = none → valV xs k = none
  | [], _, _, h, _ => by rw [show _ = [] from h]; rfl
  | (k', d') :: r, _, k, ⟨x, xs, h1, h2, h3⟩, h => by
    subst h1
    unfold valD at h
    split at h
    · cases h
    · rename_i e
      rw [valV_neg e]
      exact valD_none h3 h
theorem valV_head (k : Key) : ∀ (xs : List (List Key × V)), (∀ p ∈ xs, ∃ k, p.1 = [k]) → valV (xs.map fun p => (p.1.headD (.inl 0), p.2)) k = valV xs [k]
  | [], _ => rfl
  | p :: xs, h => by
    obtain ⟨j, hj⟩ := h p List.mem_cons_self
    have ih := valV_head k xs fun q hq => h q (List.mem_cons_of_mem _ hq)
    by_cases e : j = k
    · rw [List.map_cons, valV_pos (p := (p.1.headD (.inl 0), p.2)) (by rw [hj]; exact e), valV_pos (p := p) (by rw [hj, e])]
    · rw [List.map_cons, valV_neg (p := (p.1.headD (.inl 0), p.2)) (by rw [hj]; exact e), valV_neg (p := p) (by rw [hj]; simpa using e), ih]
theorem dget_rep {t : Bool} {a : Addr} {xs : List (List Key × V)} {k : Nat} {d : D} {v : V} {ks : List Key} (e : Same G H) (h : Rd H a (hoD t xs)) (ok : keysOk t xs) (hk : keyD t d = some ks) (r : RO K G H k d v F) : DGet H a v (valV xs ks) := by
  cases t with
  | false =>
    obtain ⟨κ, hκ, rfl⟩ := Option.map_eq_some_iff.mp hk
    obtain rfl := keyK_rep hκ r
    exact .inl ⟨_, κ, h, rfl, (valV_head κ xs (ok rfl)).symm⟩
  | true =>
    cases d <;> first | (cases hk; done) | skip
    rename_i ds
    obtain ⟨b, ys, rfl, h1, h2⟩ := r.tupE
    exact .inr ⟨xs, ks, b, h, rfl, by rw [e _ _ h1, keysK_rep hk h2], rfl⟩
theorem ROk.to_F : ∀ {kvs : List (List Key × D)} {xs : List (List Key × V)} {F : List Addr}, ROk (RO K G H 0) kvs xs F → RepFk K G kvs xs ∧ F = []
  | [], _, _, h => h
  | (k, d) :: ds, _, _, ⟨x, r, F1, F2, h1, h2, h3, h4⟩ => by
    obtain ⟨q1, q2⟩ := ROk.to_F h4
    exact ⟨⟨x, r, h1, h3.1, q1⟩, by rw [h2, h3.2, q2]; rfl⟩
theorem ROk.of_F : ∀ {kvs : List (List Key × D)} {xs : List (List Key × V)}, RepFk K G kvs xs → ROk (RO K G H 0) kvs xs []
  | [], _, h => ⟨h, rfl⟩
  | (k, d) :: ds, _, ⟨x, r, h1, h2, h3⟩ => ⟨x, r, [], [], h1, rfl, ⟨h2, rfl⟩, ROk.of_F h3⟩
/-- a dict whose values are frozen -/
theorem RO.dct1 {k : Nat} {t : Bool} {kvs : List (List Key × D)} {v : V} (e : Same G H) (hk : k ≤ 1) (r : RO K G H k (.dct t kvs) v F) : ∃ a xs, v = .ref a ∧ Rd H a (hoD t xs) ∧ keysOk t xs ∧ RepFk K G kvs xs := by
  match k, hk, r with
  | 0, _, r => obtain ⟨⟨a, xs, h1, h2, h4, h3⟩, _⟩ := r; exact ⟨a, xs, h1, same_rd e h2, h4, h3⟩
  | 1, _, r => obtain ⟨a, xs, F', h1, h2, h5, h3, h4⟩ := r; exact ⟨a, xs, h1, .inl h2, h5, (ROk.to_F h4).1⟩
def gDGet : W → W → Option W
  | (k, .dct t kvs), (_, d) => if k ≤ 1 then (keyD t d).bind fun ks => (valD kvs ks).map fun c => (0, c) else none
  | _, _ => none
theorem g_dget : Op2 K (fun x y H Q => ∃ a v, x = .ref a ∧ DGet H a y (some v) ∧ Q v H) gDGet := by
  intro G H u v x y Fu Fv w e ru rv hw
  unfold gDGet at hw; split at hw
  · split at hw
    · rename_i hk
      obtain ⟨ks, hks, hw⟩ := Option.bind_eq_some_iff.mp hw
      obtain ⟨c, hc, rfl⟩ := Option.map_eq_some_iff.mp hw
      obtain ⟨a, xs, rfl, h1, h2, h3⟩ := ru.dct1 e hk
      obtain ⟨z, hz, rz⟩ := valD_some h3 hc
      have := dget_rep e h1 h2 hks rv
      rw [hz] at this
      exact Res.pure e rz fun Q q => ⟨a, z, rfl, this, q⟩
    · cases hw
  · cases hw
theorem e_dget (hu : X.A.units + 1 < cLine) (ha : OkE X a A) (hb : OkE X b B) (hs : NoSl b := by exact fun _ _ => rfl) : OkE X (.Subscript a b pos) (pOp2 gDGet A B) := PE.imp (pe_dget hu ha hb hs) (op2_imp g_dget)
def gDIn (neg : Bool) : W → W → Option W
  | (_, d), (k, .dct t kvs) => if k ≤ 1 then (keyD t d).map fun ks => (0, .bl (neg != (valD kvs ks).isSome)) else none
  | _, _ => none
theorem din_core {t : Bool} {k j : Nat} {kvs : List (List Key × D)} {d : D} {x y : V} {Fu Fv : List Addr} {ks : List Key} (e : Same G H) (hk : k ≤ 1) (hks : keyD t d = some ks) (ru : RO K G H j d x Fu) (rv : RO K G H k (.dct t kvs) y Fv) : ∃ a o, y = .ref a ∧ DGet H a x o ∧ o.isSome = (valD kvs ks).isSome := by
  obtain ⟨a, xs, rfl, h1, h2, h3⟩ := rv.dct1 e hk
  refine ⟨a, _, rfl, dget_rep e h1 h2 hks ru, ?_⟩
  cases hc : valD kvs ks with
  | none => rw [valD_none h3 hc]; rfl
  | some c =>
    obtain ⟨z, hz, _⟩ := valD_some h3 hc
    rw [hz]; rfl
theorem g_din : Op2 K (fun y x H Q => ∃ a o, x = .ref a ∧ DGet H a y o ∧ Q (.bl o.isSome) H) (gDIn false) := by
  intro G H u v x y Fu Fv w e ru rv hw
  unfold gDIn at hw; split at hw
  · split at hw
    · rename_i hk
      obtain ⟨ks, hks, rfl⟩ := Option.map_eq_some_iff.mp hw
      obtain ⟨a, o, rfl, h1, h2⟩ := din_core e hk hks ru rv
      exact Res.pure (v := .bl o.isSome) e (by show V.bl _ = V.bl _; rw [h2, Bool.false_bne]) fun Q q => ⟨a, o, rfl, h1, q⟩
    · cases hw
  · cases hw
theorem g_dnotin : Op2 K (fun y x H Q => ∃ a o, x = .ref a ∧ DGet H a y o ∧ Q (.bl (!o.isSome)) H) (gDIn true) := by
  intro G H u v x y Fu Fv w e ru rv hw
  unfold gDIn at hw; split at hw
  · split at hw
    · rename_i hk
      obtain ⟨ks, hks, rfl⟩ := Option.map_eq_some_iff.mp hw
      obtain ⟨a, o, rfl, h1, h2⟩ := din_core e hk hks ru rv
      exact Res.pure (v := .bl (!o.isSome)) e (by show V.bl _ = V.bl _; rw [h2, Bool.true_bne]) fun Q q => ⟨a, o, rfl, h1, q⟩
    · cases hw
  · cases hw
theorem e_din (hu : X.A.units + 1 < cLine) (ha : OkE X a A) (hb : OkE X b B) (hm : behindInMarks .In b = false := by rfl) : OkE X (.Compare a [.In] [b] pos) (pOp2 (gDIn false) A B) := PE.imp (pe_cmp (pc_din hu ha hb) hm) (op2_imp g_din)
theorem e_dnotin (hu : X.A.units + 1 < cLine) (ha : OkE X a A) (hb : OkE X b B) (hm : behindInMarks .NotIn b = false := by rfl) : OkE X (.Compare a [.NotIn] [b] pos) (pOp2 (gDIn true) A B) := PE.imp (pe_cmp (pc_dnotin hu ha hb) hm) (op2_imp g_dnotin)
/-- {} -/
def pDNew (k : Nat) (t : Bool) : Fe := fun _ => some (.v (k + 1) (.dct t []))
theorem e_dnewK {k : Nat} : OkE X (.Dict [] [] pos) (pDNew k false) := PE.imp pe_dnewK fun σ H Q ⟨G0, ρ, ws, a, ⟨G, F1, F2, J⟩, hf, q⟩ p hp => by
  cases hf
  have g := Grow.newO (o := .dK []) J.ex hp trivial
  exact q _ _ (J.push (k := k + 1) (d := .dct false []) g ⟨p, [], [], rfl, upd_same, (fun _ p h => by cases h), rfl, rfl, rfl⟩).SI
theorem e_dnewT {k : Nat} : OkE X (.Dict [] [] pos) (pDNew k true) := PE.imp pe_dnewT fun σ H Q ⟨G0, ρ, ws, a, ⟨G, F1, F2, J⟩, hf, q⟩ p hp => by
  cases hf
  have g := Grow.newO (o := .dT []) J.ex hp trivial
  exact q _ _ (J.push (k := k + 1) (d := .dct true []) g ⟨p, [], [], rfl, upd_same, (fun h => by cases h), rfl, rfl, rfl⟩).SI
/-- d.get(k, z), z frozen -/
def pGet2 (A B C : Fe) : Fe := fun ρ => (val A ρ).bind fun u => (val B ρ).bind fun v => (C ρ).bind fun c => match u, c with
  | (k, .dct t kvs), .v _ z => if k ≤ 1 then (keyD t v.2).map fun ks => .v 0 ((valD kvs ks).getD z) else none
  | _, _ => none
theorem e_dget2 {apos cpos : Pos} (hu : X.A.units + 1 < cLine) (ha : OkE X a A) (hb : OkE X b B) (hc : OkE X c C) (m : M2 X a "get" apos b c cpos := by exact ⟨rfl, rfl, rfl, rfl⟩) : OkE X (.Call (.Attribute a "get" apos) [b, c] [] cpos) (pGet2 A B C) :=
  PE.imp (pe_dget2 hu ha hb hc m) fun σ H Q ⟨G0, ρ, ws, x, I, hf, q⟩ => by
  obtain ⟨⟨k, du⟩, hu, hf1⟩ := Option.bind_eq_some_iff.mp hf
  obtain ⟨v, hv, hf2⟩ := Option.bind_eq_some_iff.mp hf1
  obtain ⟨c, hc, hf3⟩ := Option.bind_eq_some_iff.mp hf2
  clear hf hf1 hf2
  cases du <;> first | (cases hf3; done) | skip
  rename_i t kvs
  cases c with
  | r j => cases hf3
  | v k2 z =>
    have hf := hf3
    clear hf3
    simp only at hf
    split at hf
    · rename_i hk
      obtain ⟨ks, hks, rfl⟩ := Option.map_eq_some_iff.mp hf
      obtain ⟨a1, ha, hg1⟩ := val_some hu
      obtain ⟨a2, hb, hg2⟩ := val_some hv
      refine ⟨G0, ρ, ws, a1, I, ha, fun x1 H1 I1 => ?_⟩
      have hx1 : ∃ p, x1 = .ref p ∧ IsD H1 p := by
        obtain ⟨G, F1, F2, J⟩ := I1
        obtain ⟨Fx, rx⟩ := J.top hg1
        obtain ⟨p, xs, rfl, h1, _⟩ := rx.dct1 J.ex hk
        cases t
        · exact ⟨p, rfl, .inl ⟨_, (h1 : Rd _ _ (.dK _))⟩⟩
        · exact ⟨p, rfl, .inr ⟨_, (h1 : Rd _ _ (.dT _))⟩⟩
      obtain ⟨p, rfl, hp⟩ := hx1
      refine ⟨p, rfl, hp, G0, ρ, (V.ref p, a1) :: ws, a2, I1, hb, fun y H2 I2 => ⟨G0, ρ, (y, a2) :: (V.ref p, a1) :: ws, .v k2 z, I2, hc, fun z' H3 I3 => ?_⟩⟩
      obtain ⟨G, F1, F2, J⟩ := I3
      obtain ⟨G', F3, J1, e1, rz⟩ := J.freeze
      obtain ⟨Fy, ry⟩ := Si.top (ws := (V.ref p, a1) :: ws) J1 hg2
      obtain ⟨F4, _, J2⟩ := Si.drop (ws := (V.ref p, a1) :: ws) J1
      obtain ⟨Fx, rx⟩ := Si.top (ws := ws) J2 hg1
      obtain ⟨F5, _, J3⟩ := Si.drop (ws := ws) J2
      obtain ⟨p', xs, ep, h1, h2, h3⟩ := rx.dct1 J3.ex hk
      cases ep
      refine ⟨_, dget_rep J3.ex h1 h2 hks ry, ?_⟩
      cases hd : valD kvs ks with
      | none =>
        rw [hd] at q
        rw [valD_none h3 hd]
        exact q _ _ (J3.pushF rz).SI
      | some d =>
        rw [hd] at q
        obtain ⟨w, hw, rw'⟩ := valD_some h3 hd
        rw [hw]
        exact q _ _ (J3.pushF rw').SI
    · cases hf
/-! ### dicts: writing -/
def putD (kvs : List (List Key × D)) (k : List Key) (d : D) : List (List Key × D) :=
  if (valD kvs k).isSome = true then kvs.map (fun p => if p.1 = k then (p.1, d) else p) else kvs ++ [(k, d)]
theorem RepFk.map {k : List Key} {d : D} {y : V} (hy : RepF K G d y) : ∀ {kvs : List (List Key × D)} {xs : List (List Key × V)}, RepFk K G kvs xs → RepFk K G (kvs.map fun p => if p.1 = k then (p.1, d) else p) (xs.map fun p => if p.1 = k then (p.1, y) else p)
  | [], _, h => by rw [show _ = [] from h]; exact (rfl : ([] : List (List Key × V)) = [])
  | (k', d') :: r, _, ⟨x, xs, h1, h2, h3⟩ => by
    subst h1
    rw [List.map_cons, List.map_cons]
    by_cases e : k' = k
    · rw [if_pos e, if_pos e]
      exact ⟨y, _, rfl, hy, RepFk.map hy h3⟩
    · rw [if_neg e, if_neg e]
      exact ⟨x, _, rfl, h2, RepFk.map hy h3⟩
theorem RepFk.snoc {k : List Key} {d : D} {y : V} (hy : RepF K G d y) : ∀ {kvs : List (List Key × D)} {xs : List (List Key × V)}, RepFk K G kvs xs → RepFk K G (kvs ++ [(k, d)]) (xs ++ [(k, y)])
  | [], _, h => by rw [show _ = [] from h]; exact ⟨y, [], rfl, hy, rfl⟩
  | (k', d') :: r, _, ⟨x, xs, h1, h2, h3⟩ => by subst h1; exact ⟨x, xs ++ [(k, y)], rfl, h2, RepFk.snoc hy h3⟩
theorem RepFk.len : ∀ {kvs : List (List Key × D)} {xs : List (List Key × V)}, RepFk K G kvs xs → xs.length = kvs.length
  | [], _, h => by rw [show _ = [] from h]; rfl
  | (k', d') :: r, _, ⟨x, xs, h1, h2, h3⟩ => by rw [h1, List.length_cons, List.length_cons, RepFk.len h3]
theorem put_rep {kvs : List (List Key × D)} {xs : List (List Key × V)} {k : List Key} {d : D} {y : V} (h : RepFk K G kvs xs) (hy : RepF K G d y) : RepFk K G (putD kvs k d) (putK xs k y) := by
  unfold putD putK
  rw [valV_any]
  have : (valV xs k).isSome = (valD kvs k).isSome := by
    cases hc : valD kvs k with
    | none => rw [valD_none h hc]; rfl
    | some c => obtain ⟨z, hz, _⟩ := valD_some h hc; rw [hz]; rfl
  rw [this]
  split
  · exact h.map hy
  · exact h.snoc hy
theorem put_head {k : Key} {y : V} {xs : List (List Key × V)} (ok : ∀ p ∈ xs, ∃ k, p.1 = [k]) : (putK xs [k] y).map (fun p => (p.1.headD (.inl 0), p.2)) = putK (xs.map fun p => (p.1.headD (.inl 0), p.2)) k y := by
  unfold putK
  rw [valV_any, valV_any, valV_head k xs ok]
  split
  · rw [List.map_map, List.map_map]
    refine List.map_congr_left fun p hp => ?_
    obtain ⟨j, hj⟩ := ok p hp
    simp only [Function.comp]
    by_cases e : j = k
    · rw [if_pos (by rw [hj, e]), if_pos (by rw [hj]; exact e)]
    · rw [if_neg (by rw [hj]; simpa using e), if_neg (by rw [hj]; exact e)]
  · rw [List.map_append]; rfl
theorem put_ok {t : Bool} {d : D} {k : List Key} {y : V} {xs : List (List Key × V)} (hk : keyD t d = some k) (ok : keysOk t xs) : keysOk t (putK xs k y) := by
  intro ht p hp
  subst ht
  obtain ⟨κ, _, rfl⟩ := Option.map_eq_some_iff.mp hk
  unfold putK at hp
  split at hp
  · obtain ⟨q, hq, e⟩ := List.mem_map.mp hp
    obtain ⟨j, hj⟩ := ok rfl q hq
    split at e
    · subst e; exact ⟨j, hj⟩
    · subst e; exact ⟨j, hj⟩
  · rcases List.mem_append.mp hp with q | q
    · exact ok rfl p q
    · rw [List.mem_singleton.mp q]; exact ⟨κ, rfl⟩
theorem dput_rep {t : Bool} {a : Addr} {xs : List (List Key × V)} {k : Nat} {d : D} {v y : V} {ks : List Key} (e : Same G H) (h : H a = some (hoD t xs)) (ok : keysOk t xs) (hk : keyD t d = some ks) (r : RO K G H k d v F) (hz : xs.length < sizeLine) :
    DPut H a v y (upd H a (hoD t (putK xs ks y))) := by
  cases t with
  | false =>
    obtain ⟨κ, hκ, rfl⟩ := Option.map_eq_some_iff.mp hk
    obtain rfl := keyK_rep hκ r
    refine .inl ⟨_, κ, h, rfl, by simpa using hz, ?_⟩
    rw [← put_head (ok rfl)]; rfl
  | true =>
    cases d <;> first | (cases hk; done) | skip
    obtain ⟨b, ys, rfl, h1, h2⟩ := r.tupE
    exact .inr ⟨xs, ks, b, h, rfl, by rw [e _ _ h1, keysK_rep hk h2], hz, rfl⟩
/-- x[k] = e, x a dict in slot i -/
def sPut (i : Nat) (B A : Fe) : Fs := fun ρ => (A ρ).bind fun a => match a with
  | .v _ d => ((ρ[i]?).join).bind fun w => match w with
    | (1, .dct t kvs) => (val B ρ).bind fun u => if kvs.length < big then (keyD t u.2).map fun ks => (.nx, ρ.set i (some (1, .dct t (putD kvs ks d)))) else none
    | _ => none
  | .r _ => none
theorem s_put {i : Nat} {x : Str} {p tpos : Pos} (hu : X.A.units + 1 < cLine) (he : OkE X e A) (hb : OkE X b B) (hN : X.N[i]? = some x := by rfl) (hv : Vis X.env.scope x := by first | exact Or.inl rfl | exact Or.inr (Or.inl rfl) | exact Or.inr (Or.inr rfl)) (hd : (x == ("__debug__" : Str)) = false := by decide) (hcd : (x == ("__classdict__" : Str)) = false := by decide)
    (hs : swapsWith e (some (.Subscript (.Name x p) b tpos)) pos.line X.env = pure false := by rfl) : OkS X (.Assign [.Subscript (.Name x p) b tpos] e pos) (sPut i B A) := PS.imp (ps_dput hu (pe_var hN hv hd hcd) hb he hs) fun D σ H ⟨G0, ρ, fl, ρ', I, hf, post⟩ => by
  obtain ⟨a, ha, hf⟩ := Option.bind_eq_some_iff.mp hf
  cases a with
  | r j => cases hf
  | v j d =>
    obtain ⟨w, hw, hf⟩ := Option.bind_eq_some_iff.mp hf
    split at hf
    · rename_i t kvs
      obtain ⟨u, hu, hf⟩ := Option.bind_eq_some_iff.mp hf
      split at hf
      · rename_i hz
        obtain ⟨ks, hks, hf⟩ := Option.map_eq_some_iff.mp hf
        cases hf
        obtain ⟨a2, ha2, hg2⟩ := val_some hu
        have hρ := join_some hw
        refine ⟨G0, ρ, [], _, I, ha, fun y H1 I1 => ?_⟩
        have hx : ∃ p, σ[i]? = some (some (.ref p)) := by
          obtain ⟨G, F1, F2, J⟩ := I1
          obtain ⟨v, Fi, h1, h2, _⟩ := J.sl.at hρ
          obtain ⟨p, xs, rfl, h3, _⟩ := RO.dct1 J.ex (Nat.le_refl 1) h2
          exact ⟨p, h1⟩
        obtain ⟨p, hp⟩ := hx
        refine ⟨.ref p, hp, G0, ρ, [(y, .v j d)], a2, I1, ha2, fun z H2 I2 => ?_⟩
        obtain ⟨G, F1, F2, J⟩ := I2
        obtain ⟨Fz, rz⟩ := J.top hg2
        obtain ⟨F3, _, J1⟩ := J.drop
        obtain ⟨G2, F4, J2, e2, r2⟩ := J1.freeze
        have rz' : ∃ Fz', RO X.K G2 H2 u.1 u.2 z Fz' := ⟨Fz, RO.mono e2 _ _ _ Fz (fun _ _ => rfl) rz⟩
        obtain ⟨Fz', rz'⟩ := rz'
        obtain ⟨v, Fa, Fi, Fb, e1, h1, h2, h3⟩ := J2.slot hρ
        rw [hp] at h1
        cases h1
        obtain ⟨p', xs, F', q0, h4, hok, rfl, h5⟩ := h2
        cases q0
        subst e1
        obtain ⟨h6, h7⟩ := ROk.to_F h5
        subst h7
        refine ⟨p, _, rfl, dput_rep J2.ex h4 hok hks rz' (by rw [h6.len]; exact big_lt hz), post _ _ ?_⟩
        exact SI.upd (w := (1, .dct t kvs)) (F'' := []) J2 (isOwn_hoD t _) h3 List.nodup_nil (fun b hb => by cases hb) ⟨p, _, [], rfl, upd_same, put_ok hks hok, rfl, ROk.of_F (put_rep h6 r2)⟩
      · cases hf
    · cases hf
end
end Pv
set_option Elab.async false
set_option linter.all false
set_option maxRecDepth 100000
/-! P12: builtins -/
namespace Pv
open PySem PySem.Spec PyProof.Rows L2
section
variable {X : Cx} {K : PySem.W.Frag} {G0 G G1 G' H H' : Hp} {σ : L2.St} {ρ : Env} {ws : List (V × Arg)} {F F1 F2 : List Addr} {e a b c tg : Expr} {es : List Expr} {pos : Pos} {A B C : Fe}
/-! ### len, int, abs -/
theorem RO.seq {k : Nat} {d : D} {v : V} {bb : Bool} {ds : List D} (e : Same G H) (h : seqD d = some (bb, ds)) (r : RO K G H k d v F) : ∃ a n, v = .ref a ∧ n = ds.length ∧ ((∃ xs, SqL K H a xs ∧ n = xs.length) ∨ ∃ xs, SqT K H a xs ∧ n = xs.length) := by
  cases d <;> first | (cases h; done) | skip
  · cases h; obtain ⟨a, xs, h1, h2, h3⟩ := r.tup; exact ⟨a, _, h1, rfl, .inr ⟨xs, same_t e h2, h3.len.symm⟩⟩
  · cases h; obtain ⟨a, xs, h1, h2, h3⟩ := r.lstN e; exact ⟨a, _, h1, rfl, .inl ⟨xs, SqL.of h2, h3.symm⟩⟩
  · cases h; obtain ⟨a, xs, h1, h2, h3⟩ := r.ktp; exact ⟨a, _, h1, rfl, .inr ⟨xs, same_t e h2.sq, h3.len.symm⟩⟩
def gLen : W → Option W
  | (_, .str z) => if z.length ≤ big then some (0, .int (z.length : Nat)) else none
  | (_, .scr ns) => some (0, .int (ns.length : Nat))
  | (_, d) => (seqD d).map fun p => (0, .int (p.2.length : Nat))
theorem g_len : Op1 K (fun x H Q => ∃ y n, [x] = [y] ∧ LenV K y H n ∧ Q (.int n) H) gLen := by
  intro G H u x Fu w e ru hw
  unfold gLen at hw; split at hw
  · split at hw
    · rename_i hz
      cases hw
      obtain rfl := ru.str
      exact Res.pure (v := .int _) e rfl fun Q q => ⟨_, _, rfl, ⟨big_line hz, rfl⟩, q⟩
    · cases hw
  · cases hw
    obtain ⟨a, rfl, h⟩ := ru.scr
    exact Res.pure (v := .int _) e rfl fun Q q => ⟨_, _, rfl, .inl ⟨_, same_l e h, by simp⟩, q⟩
  · obtain ⟨⟨bb, ds⟩, hp, rfl⟩ := Option.map_eq_some_iff.mp hw
    obtain ⟨a, n, rfl, rfl, h⟩ := ru.seq e hp
    exact Res.pure (v := .int _) e rfl fun Q q => ⟨_, _, rfl, h, q⟩
theorem e_len {p : Pos} (hg : Gl X "len") (hm : X.mg "len" = none) (ha : OkE X a A) (hs : starEach (a :: []) X.env = (false, eval a X.env) :: starEach [] X.env := by rfl) : OkE X (.Call (.Name "len" p) [a] [] pos) (pCall (on1 gLen) (aCons A aNil)) :=
  e_bi call_len (opN_1 g_len) hg hm (by rfl) (a_cons ha a_nil hs) (hs := hs)
def gInt : W → Option W
  | (_, .int i) => some (0, .int i)
  | (_, .bl b) => some (0, .int (if b then 1 else 0))
  | _ => none
theorem g_int : Op1 K (fun x H Q => (∃ i, [x] = [.int i] ∧ Q (.int i) H) ∨ ∃ k, [x] = [.bl k] ∧ Q (.int (if k then 1 else 0)) H) gInt := by
  intro G H u x Fu w e ru hw
  unfold gInt at hw; split at hw
  · cases hw
    obtain rfl := ru.int
    exact Res.pure (v := .int _) e rfl fun Q q => .inl ⟨_, rfl, q⟩
  · cases hw
    obtain rfl := ru.bl
    exact Res.pure (v := .int _) e rfl fun Q q => .inr ⟨_, rfl, q⟩
  · cases hw
theorem e_intF {p : Pos} (hg : Gl X "int") (hm : X.mg "int" = none) (ha : OkE X a A) (hs : starEach (a :: []) X.env = (false, eval a X.env) :: starEach [] X.env := by rfl) : OkE X (.Call (.Name "int" p) [a] [] pos) (pCall (on1 gInt) (aCons A aNil)) :=
  e_ty call_int1 (opN_1 g_int) hg hm (by rfl) (a_cons ha a_nil hs) (hs := hs)
def gAbs : W → Option W
  | (_, .int i) => some (0, .int (if i < 0 then -i else i))
  | _ => none
theorem g_abs : Op1 K (fun x H Q => ∃ i, [x] = [.int i] ∧ Q (.int (if i < 0 then -i else i)) H) gAbs := by
  intro G H u x Fu w e ru hw
  unfold gAbs at hw; split at hw
  · cases hw
    obtain rfl := ru.int
    exact Res.pure (v := .int _) e rfl fun Q q => ⟨_, rfl, q⟩
  · cases hw
theorem e_abs {p : Pos} (hg : Gl X "abs") (hm : X.mg "abs" = none) (ha : OkE X a A) (hs : starEach (a :: []) X.env = (false, eval a X.env) :: starEach [] X.env := by rfl) : OkE X (.Call (.Name "abs" p) [a] [] pos) (pCall (on1 gAbs) (aCons A aNil)) :=
  e_bi call_abs (opN_1 g_abs) hg hm (by rfl) (a_cons ha a_nil hs) (hs := hs)
/-! ### isinstance -/
inductive Ty where | non | bl | int | str | tup | lst | dct deriving DecidableEq
def Ty.name : Ty → String
  | .non => "NoneType" | .bl => "bool" | .int => "int" | .str => "str" | .tup => "tuple" | .lst => "list" | .dct => "dict"
def tyD : D → Ty
  | .non => .non | .bl _ => .bl | .int _ => .int | .str _ => .str | .tup _ => .tup | .ktp _ => .tup | .lst _ => .lst | .scr _ => .lst | .dct _ _ => .dct
def isiB (t c : Ty) : Bool := t == c || (t == .bl && c == .int)
theorem isi_K (t c : Ty) : PySem.W.kitOne K (.type t.name) (.type c.name) = some (isiB t c) := by
  cases t <;> cases c <;> rfl
theorem TyX.lstR {x : Addr} {xs : List V} (h : SqL K H x xs) : TyX K H (.ref x) (.type "list") := by
  rcases h with (h | ⟨o, h⟩) | ⟨o, its, n, h1, h2, _⟩
  · exact .base (.lst h)
  · exact .base (.frz h)
  · exact .kList h1 h2
theorem TyX.tupR {x : Addr} {xs : List V} (h : SqT K H x xs) : TyX K H (.ref x) (.type "tuple") := by
  rcases h with (h | ⟨o, h⟩) | ⟨o, its, n, h1, h2, _⟩
  · exact .base (.tup h)
  · exact .fTuple h
  · exact .kTuple h1 h2
/-- a dict of tuple keys, locked: not told -/
theorem TyX.of {k : Nat} {d : D} {v : V} (e : Same G H) (hd : tyD d ≠ .dct) (r : RO K G H k d v F) : TyX K H v (.type (tyD d).name) := by
  cases d with
  | non => obtain rfl := r.non; exact .base .non
  | bl b => obtain rfl := r.bl; exact .base (.bl b)
  | int b => obtain rfl := r.int; exact .base (.int b)
  | str b => obtain rfl := r.str; exact .base (.str b)
  | tup ds => obtain ⟨a, xs, rfl, h, _⟩ := r.tup; exact TyX.tupR (same_t e h)
  | ktp ds => obtain ⟨a, xs, rfl, h, _⟩ := r.ktp; exact TyX.tupR (same_t e h.sq)
  | scr ns => obtain ⟨a, rfl, h⟩ := r.scr; exact TyX.lstR (same_l e h)
  | lst ds => obtain ⟨a, xs, rfl, h, _⟩ := r.lstN e; exact TyX.lstR (SqL.of h)
  | dct t ds => exact absurd rfl hd
def gIsi (c : Ty) : W → Option W := fun w => if tyD w.2 ≠ .dct then some (0, .bl (isiB (tyD w.2) c)) else none
def pIsi (c : Ty) (A : Fe) : Fe := pOp1 (gIsi c) A
theorem e_isi {p p2 : Pos} {cn : Str} (c : Ty) (hg : Gl X "isinstance") (hm : X.mg "isinstance" = none) (hg2 : Gl X cn) (hm2 : X.mg cn = none) (ha : OkE X a A) (hv : bootBuiltins cn = some (.type c.name) := by rfl) (hn : cn ≠ "__name__" := by decide) (hd : (cn == ("__debug__" : Str)) = false := by decide)
    (hs : starEach (a :: [.Name cn p2]) X.env = (false, eval a X.env) :: starEach [.Name cn p2] X.env := by rfl) : OkE X (.Call (.Name "isinstance" p) [a, .Name cn p2] [] pos) (pIsi c A) :=
  PE.imp (pe_callB call_isi hg hm (by rfl) (pa_cons ha (pa_cons (pe_bltn hg2 hm2 hv (show RelV (.ty c.name) (.type c.name) from rfl) hn hd) pa_nil (by rfl)) hs) (by decide) (by decide) hs (by rfl)) fun σ H Q h => by
  refine op1_imp (r := fun x H Q => rIsi X.K [x, .ty c.name] H Q) ?_ σ H Q h
  intro G H u x Fu w e ru hw
  unfold gIsi at hw
  split at hw
  · rename_i hne
    cases hw
    exact Res.pure (v := .bl _) e rfl fun Q q => ⟨_, _, _, _, _, rfl, ClsV.ty _, TyX.of e hne ru, isi_K _ _, q⟩
  · cases hw
/-! ### flat data; in -/
def flatD : D → Bool
  | .non => true | .bl _ => true | .int _ => true | .str _ => true | _ => false
def eqF : D → D → Bool
  | .non, .non => true
  | .bl a, .bl b => a == b
  | .bl a, .int b => (if a then 1 else 0) == b
  | .int a, .bl b => a == (if b then 1 else 0)
  | .int a, .int b => a == b
  | .str a, .str b => a == b
  | _, _ => false
theorem flat_rep {d : D} {v : V} (h : flatD d = true) (r : RepF K G d v) : flatV v = true := by
  cases d <;> first | (cases h; done) | (rw [show v = _ from r]; rfl)
theorem flats_rep : ∀ {ds : List D} {xs : List V}, ds.all flatD = true → RepFs K G ds xs → xs.all flatV = true
  | [], _, _, r => by rw [show _ = [] from r]; rfl
  | d :: ds, _, h, ⟨x, r, h1, h2, h3⟩ => by
    rw [List.all_cons, Bool.and_eq_true] at h
    rw [h1, List.all_cons, flat_rep h.1 h2, flats_rep h.2 h3]; rfl
theorem eqF_rep {d c : D} {v y : V} (h : flatD d = true) (h' : flatD c = true) (r : RepF K G d v) (r' : RepF K G c y) : eqV v y = eqF d c := by
  cases d <;> first | (cases h; done) | skip
  all_goals (cases c <;> first | (cases h'; done) | (rw [show v = _ from r, show y = _ from r']; rfl))
def inF (d : D) (ds : List D) : Bool := ds.any fun c => eqF c d
theorem inF_rep {d : D} {v : V} (h : flatD d = true) (r : RepF K G d v) : ∀ {ds : List D} {xs : List V}, ds.all flatD = true → RepFs K G ds xs → inV v xs = inF d ds
  | [], _, _, q => by rw [show _ = [] from q]; rfl
  | c :: ds, _, hd, ⟨x, xs, h1, h2, h3⟩ => by
    rw [List.all_cons, Bool.and_eq_true] at hd
    have := inF_rep h r hd.2 h3
    unfold inV inF at this ⊢
    rw [h1, List.any_cons, List.any_cons, this, eqF_rep hd.1 h h2 r]
def gIn (neg : Bool) : W → W → Option W
  | (_, d), (k, .lst ds) => if k ≤ 1 ∧ flatD d = true ∧ ds.all flatD = true then some (0, .bl (neg != inF d ds)) else none
  | (_, d), (_, .tup ds) => if flatD d = true ∧ ds.all flatD = true then some (0, .bl (neg != inF d ds)) else none
  | (_, d), (_, .ktp ds) => if flatD d = true ∧ ds.all flatD = true then some (0, .bl (neg != inF d ds)) else none
  | _, _ => none
theorem flat_plain {d : D} (h : flatD d = true) : isBox d = false := by cases d <;> first | rfl | cases h
theorem g_in (neg : Bool) : Op2 K (rIn K neg) (gIn neg) := by
  intro G H u v x y Fu Fv w e ru rv hw
  have key : ∀ (d : D) (ds : List D) (p : Addr) (xs : List V), u.2 = d → y = .ref p → (SqL K H p xs ∨ SqT K H p xs) → RepFs K G ds xs → flatD d = true → ds.all flatD = true → w = (0, .bl (neg != inF d ds)) → Res K G H w (rIn K neg x y H) := by
    intro d ds p xs hd hy hq hr f1 f2 hw
    subst hd hy hw
    obtain ⟨r1, _⟩ := ru.plain (flat_plain f1)
    refine Res.pure (v := .bl (if neg then !inV x xs else inV x xs)) e ?_ fun Q q => ⟨p, xs, rfl, hq, flat_rep f1 r1, flats_rep f2 hr, q⟩
    show V.bl _ = V.bl _
    rw [inF_rep f1 r1 f2 hr]
    cases neg
    · rw [Bool.false_bne]; rfl
    · rw [Bool.true_bne]; rfl
  unfold gIn at hw; split at hw
  · split at hw
    · rename_i ok
      cases hw
      obtain ⟨a, xs, h1, h2, h3⟩ := rv.lst1 e ok.1
      exact key _ _ a xs rfl h1 (.inl (SqL.of h2)) h3 ok.2.1 ok.2.2 rfl
    · cases hw
  · split at hw
    · rename_i ok
      cases hw
      obtain ⟨a, xs, h1, h2, h3⟩ := rv.tup
      exact key _ _ a xs rfl h1 (.inr (same_t e h2)) h3 ok.1 ok.2 rfl
    · cases hw
  · split at hw
    · rename_i ok
      cases hw
      obtain ⟨a, xs, h1, h2, h3⟩ := rv.ktp
      exact key _ _ a xs rfl h1 (.inr (same_t e h2.sq)) h3 ok.1 ok.2 rfl
    · cases hw
  · cases hw
theorem e_in (ha : OkE X a A) (hb : OkE X b B) (hm : behindInMarks .In b = false := by rfl) : OkE X (.Compare a [.In] [b] pos) (pOp2 (gIn false) A B) := e_cmp op_in_seq (g_in false) ha hb hm
theorem e_notin (ha : OkE X a A) (hb : OkE X b B) (hm : behindInMarks .NotIn b = false := by rfl) : OkE X (.Compare a [.NotIn] [b] pos) (pOp2 (gIn true) A B) := e_cmp op_notIn_seq (g_in true) ha hb hm
/-! ### ints of a list or tuple: sum, min, max, sorted -/
def intsD : List D → Option (List Int)
  | [] => some []
  | .int i :: ds => (intsD ds).map fun r => i :: r
  | _ :: _ => none
theorem ints_rep : ∀ {ds : List D} {xs : List V} {ns : List Int}, intsD ds = some ns → RepFs K G ds xs → xs = ns.map V.int
  | [], _, _, h, r => by cases h; exact r
  | d :: ds, _, ns, h, ⟨x, r, h1, h2, h3⟩ => by
    cases d <;> first | (cases h; done) | skip
    obtain ⟨ms, hm, rfl⟩ := Option.map_eq_some_iff.mp h
    rw [h1, ints_rep hm h3, show x = _ from h2]; rfl
theorem sum_rawT {prog : Program} {w : World} {A : Around} {E : Value → Shared → Prop} {s : Shared} {l : Addr} {its : List Value} {ns : List Int} {Q : Value → Shared → Prop} (hh : A.handled = none) (hl : s.heap.IsTuple l its.toArray) (hi : IntsAre its ns)
    (h : ∀ h' tk t', (∀ b o, s.heap.get? b = some o → h'.get? b = some o) → Q (.int ns.sum t') { s with heap := h', toks := tk }) : wpAny (model prog w) A (call (.builtin "sum") [.ref l]) Q E s := by
  obtain ⟨xs, e⟩ := hi.allInts.items
  have hn : numsOf (intItems xs).toList = ns := by rw [← e]; exact hi.numsOf
  rw [nums_intItems] at hn
  rw [e] at hl
  refine PySem.W.ktm_sumG hh hl fun h' tk t' hk => ?_
  have := h h' tk t' hk
  rw [preSum_eq, List.take_of_length_le (by simp), hn]; exact this
def rSumT (K : PySem.W.Frag) : List V → Hp → VK → Prop := fun vs H Q => ∃ (a : Addr) (ns : List Int), vs = [V.ref a] ∧ (SqL K H a (ns.map V.int) ∨ SqT K H a (ns.map V.int)) ∧ Q (.int ns.sum) H
theorem cr_sumT (hc : X.calm = true) : CallR X (.builtin "sum") (rSumT X.K) := by
  intro pins s σ H vs us Q I r h
  obtain ⟨a, ns, rfl, hs | hs, q⟩ := h
  · exact cr_sum hc pins s σ H [.ref a] us Q I r ⟨a, ns, rfl, hs, q⟩
  · obtain ⟨its, rv, hl, _⟩ := I.tuple hs
    rw [Vals.ref1 r]
    exact sum_rawT (I.ok.hd hc) hl rv.ints fun h' tk t' hk => ⟨.int _, H, I.kept hk, ⟨_, rfl⟩, q⟩
/-- the items of a list (owned at most at its top) or tuple -/
def itemsD : W → Option (List D)
  | (k, .lst ds) => if k ≤ 1 then some ds else none
  | (_, .tup ds) => some ds
  | (_, .ktp ds) => some ds
  | _ => none
theorem items_rep {u : W} {x : V} {ds : List D} (e : Same G H) (h : itemsD u = some ds) (r : RO K G H u.1 u.2 x F) : ∃ a xs, x = .ref a ∧ (SqL K H a xs ∨ SqT K H a xs) ∧ RepFs K G ds xs := by
  unfold itemsD at h; split at h
  · split at h
    · rename_i hk
      cases h
      obtain ⟨a, xs, h1, h2, h3⟩ := r.lst1 e hk
      exact ⟨a, xs, h1, .inl (SqL.of h2), h3⟩
    · cases h
  · cases h; obtain ⟨a, xs, h1, h2, h3⟩ := r.tup; exact ⟨a, xs, h1, .inr (same_t e h2), h3⟩
  · cases h; obtain ⟨a, xs, h1, h2, h3⟩ := r.ktp; exact ⟨a, xs, h1, .inr (same_t e h2.sq), h3⟩
  · cases h
def gSum : W → Option W := fun u => (itemsD u).bind fun ds => (intsD ds).map fun ns => (0, .int ns.sum)
theorem g_sum : Op1 K (fun x H Q => rSumT K [x] H Q) gSum := by
  intro G H u x Fu w e ru hw
  obtain ⟨ds, hd, hw⟩ := Option.bind_eq_some_iff.mp hw
  obtain ⟨ns, hn, rfl⟩ := Option.map_eq_some_iff.mp hw
  obtain ⟨a, xs, rfl, h1, h2⟩ := items_rep e hd ru
  have := ints_rep hn h2
  subst this
  exact Res.pure (v := .int _) e rfl fun Q q => ⟨a, ns, rfl, h1, q⟩
theorem e_sum {p : Pos} (hc : X.calm = true) (hg : Gl X "sum") (hm : X.mg "sum" = none) (ha : OkE X a A) (hs : starEach (a :: []) X.env = (false, eval a X.env) :: starEach [] X.env := by rfl) : OkE X (.Call (.Name "sum" p) [a] [] pos) (pCall (on1 gSum) (aCons A aNil)) :=
  e_bi (cr_sumT hc) (opN_1 g_sum) hg hm (by rfl) (a_cons ha a_nil hs) (hs := hs)
def listD : W → Option (List D)
  | (k, .lst ds) => if k ≤ 1 then some ds else none
  | _ => none
theorem list_rep {u : W} {x : V} {ds : List D} (e : Same G H) (h : listD u = some ds) (r : RO K G H u.1 u.2 x F) : ∃ a xs, x = .ref a ∧ SqL K H a xs ∧ RepFs K G ds xs := by
  unfold listD at h; split at h
  · split at h
    · rename_i hk
      cases h
      obtain ⟨a, xs, h1, h2, h3⟩ := r.lst1 e hk
      exact ⟨a, xs, h1, SqL.of h2, h3⟩
    · cases h
  · cases h
def minI : Int → List Int → Int
  | m, [] => m
  | m, n :: ns => minI (if n < m then n else m) ns
def maxI : Int → List Int → Int
  | m, [] => m
  | m, n :: ns => maxI (if m < n then n else m) ns
theorem minI_spec : ∀ (m : Int) (ns : List Int), (minI m ns = m ∨ minI m ns ∈ ns) ∧ minI m ns ≤ m ∧ ∀ y ∈ ns, minI m ns ≤ y
  | m, [] => ⟨.inl rfl, Int.le_refl _, fun y h => by cases h⟩
  | m, n :: ns => by
    unfold minI
    obtain ⟨h1, h2, h3⟩ := minI_spec (if n < m then n else m) ns
    split at h1 <;> split at h2 <;> rename_i c c' <;> first | (exact absurd c c') | (exact absurd c' c) | skip
    · rw [if_pos c] at h3 ⊢
      refine ⟨.inr ?_, by omega, fun y hy => ?_⟩
      · rcases h1 with h1 | h1
        · rw [h1]; exact List.mem_cons_self
        · exact List.mem_cons_of_mem _ h1
      · rcases List.mem_cons.mp hy with rfl | hy
        · exact h2
        · exact h3 y hy
    · rw [if_neg c] at h3 ⊢
      refine ⟨?_, h2, fun y hy => ?_⟩
      · rcases h1 with h1 | h1
        · exact .inl h1
        · exact .inr (List.mem_cons_of_mem _ h1)
      · rcases List.mem_cons.mp hy with rfl | hy
        · omega
        · exact h3 y hy
theorem maxI_spec : ∀ (m : Int) (ns : List Int), (maxI m ns = m ∨ maxI m ns ∈ ns) ∧ m ≤ maxI m ns ∧ ∀ y ∈ ns, y ≤ maxI m ns
  | m, [] => ⟨.inl rfl, Int.le_refl _, fun y h => by cases h⟩
  | m, n :: ns => by
    unfold maxI
    obtain ⟨h1, h2, h3⟩ := maxI_spec (if m < n then n else m) ns
    split at h1 <;> split at h2 <;> rename_i c c' <;> first | (exact absurd c c') | (exact absurd c' c) | skip
    · rw [if_pos c] at h3 ⊢
      refine ⟨.inr ?_, by omega, fun y hy => ?_⟩
      · rcases h1 with h1 | h1
        · rw [h1]; exact List.mem_cons_self
        · exact List.mem_cons_of_mem _ h1
      · rcases List.mem_cons.mp hy with rfl | hy
        · exact h2
        · exact h3 y hy
    · rw [if_neg c] at h3 ⊢
      refine ⟨?_, h2, fun y hy => ?_⟩
      · rcases h1 with h1 | h1
        · exact .inl h1
        · exact .inr (List.mem_cons_of_mem _ h1)
      · rcases List.mem_cons.mp hy with rfl | hy
        · omega
        · exact h3 y hy
def gMin : W → Option W := fun u => (listD u).bind fun ds => (intsD ds).bind fun ns => match ns with
  | [] => none
  | n :: r => some (0, .int (minI n r))
def gMax : W → Option W := fun u => (listD u).bind fun ds => (intsD ds).bind fun ns => match ns with
  | [] => none
  | n :: r => some (0, .int (maxI n r))
theorem g_min : Op1 K (fun x H Q => rMin K [x] H Q) gMin := by
  intro G H u x Fu w e ru hw
  obtain ⟨ds, hd, hw⟩ := Option.bind_eq_some_iff.mp hw
  obtain ⟨ns, hn, hw⟩ := Option.bind_eq_some_iff.mp hw
  obtain ⟨a, xs, rfl, h1, h2⟩ := list_rep e hd ru
  have := ints_rep hn h2
  subst this
  cases ns with
  | nil => cases hw
  | cons n r =>
    cases hw
    obtain ⟨m1, m2, m3⟩ := minI_spec n r
    refine Res.pure (v := .int _) e rfl fun Q q => ⟨a, n :: r, rfl, h1, Nat.succ_pos _, fun m hm hle => ?_⟩
    have : m = minI n r := by
      apply Int.le_antisymm
      · rcases m1 with q | q
        · rw [q]; exact hle n List.mem_cons_self
        · exact hle _ (List.mem_cons_of_mem _ q)
      · rcases List.mem_cons.mp hm with rfl | q
        · exact m2
        · exact m3 m q
    rw [this]; exact q
theorem g_max : Op1 K (fun x H Q => rMax K [x] H Q) gMax := by
  intro G H u x Fu w e ru hw
  obtain ⟨ds, hd, hw⟩ := Option.bind_eq_some_iff.mp hw
  obtain ⟨ns, hn, hw⟩ := Option.bind_eq_some_iff.mp hw
  obtain ⟨a, xs, rfl, h1, h2⟩ := list_rep e hd ru
  have := ints_rep hn h2
  subst this
  cases ns with
  | nil => cases hw
  | cons n r =>
    cases hw
    obtain ⟨m1, m2, m3⟩ := maxI_spec n r
    refine Res.pure (v := .int _) e rfl fun Q q => ⟨a, n :: r, rfl, h1, Nat.succ_pos _, fun m hm hle => ?_⟩
    have : m = maxI n r := by
      apply Int.le_antisymm
      · rcases List.mem_cons.mp hm with rfl | q
        · exact m2
        · exact m3 m q
      · rcases m1 with q | q
        · rw [q]; exact hle n List.mem_cons_self
        · exact hle _ (List.mem_cons_of_mem _ q)
    rw [this]; exact q
theorem e_min {p : Pos} (hc : X.calm = true) (hg : Gl X "min") (hm : X.mg "min" = none) (ha : OkE X a A) (hs : starEach (a :: []) X.env = (false, eval a X.env) :: starEach [] X.env := by rfl) : OkE X (.Call (.Name "min" p) [a] [] pos) (pCall (on1 gMin) (aCons A aNil)) :=
  e_bi (cr_min hc) (opN_1 g_min) hg hm (by rfl) (a_cons ha a_nil hs) (hs := hs)
theorem e_max {p : Pos} (hc : X.calm = true) (hg : Gl X "max") (hm : X.mg "max" = none) (ha : OkE X a A) (hs : starEach (a :: []) X.env = (false, eval a X.env) :: starEach [] X.env := by rfl) : OkE X (.Call (.Name "max" p) [a] [] pos) (pCall (on1 gMax) (aCons A aNil)) :=
  e_bi (cr_max hc) (opN_1 g_max) hg hm (by rfl) (a_cons ha a_nil hs) (hs := hs)
/-- all(xs), any(xs) of bools -/
def blsD : List D → Option (List Bool)
  | [] => some []
  | .bl i :: ds => (blsD ds).map fun r => i :: r
  | _ :: _ => none
theorem bls_rep : ∀ {ds : List D} {xs : List V} {ns : List Bool}, blsD ds = some ns → RepFs K G ds xs → xs = ns.map V.bl
  | [], _, _, h, r => by cases h; exact r
  | d :: ds, _, ns, h, ⟨x, r, h1, h2, h3⟩ => by
    cases d <;> first | (cases h; done) | skip
    obtain ⟨ms, hm, rfl⟩ := Option.map_eq_some_iff.mp h
    rw [h1, bls_rep hm h3, show x = _ from h2]; rfl
def gAll : W → Option W := fun u => (listD u).bind fun ds => (blsD ds).map fun ns => (0, .bl (ns.all id))
def gAny : W → Option W := fun u => (listD u).bind fun ds => (blsD ds).map fun ns => (0, .bl (ns.any id))
theorem g_all : Op1 K (fun x H Q => rAll K [x] H Q) gAll := by
  intro G H u x Fu w e ru hw
  obtain ⟨ds, hd, hw⟩ := Option.bind_eq_some_iff.mp hw
  obtain ⟨ns, hn, rfl⟩ := Option.map_eq_some_iff.mp hw
  obtain ⟨a, xs, rfl, h1, h2⟩ := list_rep e hd ru
  have := bls_rep hn h2
  subst this
  exact Res.pure (v := .bl _) e rfl fun Q q => ⟨a, ns, rfl, h1, q⟩
theorem g_any : Op1 K (fun x H Q => rAny K [x] H Q) gAny := by
  intro G H u x Fu w e ru hw
  obtain ⟨ds, hd, hw⟩ := Option.bind_eq_some_iff.mp hw
  obtain ⟨ns, hn, rfl⟩ := Option.map_eq_some_iff.mp hw
  obtain ⟨a, xs, rfl, h1, h2⟩ := list_rep e hd ru
  have := bls_rep hn h2
  subst this
  exact Res.pure (v := .bl _) e rfl fun Q q => ⟨a, ns, rfl, h1, q⟩
theorem e_all {p : Pos} (hc : X.calm = true) (hg : Gl X "all") (hm : X.mg "all" = none) (ha : OkE X a A) (hs : starEach (a :: []) X.env = (false, eval a X.env) :: starEach [] X.env := by rfl) : OkE X (.Call (.Name "all" p) [a] [] pos) (pCall (on1 gAll) (aCons A aNil)) :=
  e_bi (cr_all hc) (opN_1 g_all) hg hm (by rfl) (a_cons ha a_nil hs) (hs := hs)
theorem e_any {p : Pos} (hc : X.calm = true) (hg : Gl X "any") (hm : X.mg "any" = none) (ha : OkE X a A) (hs : starEach (a :: []) X.env = (false, eval a X.env) :: starEach [] X.env := by rfl) : OkE X (.Call (.Name "any" p) [a] [] pos) (pCall (on1 gAny) (aCons A aNil)) :=
  e_bi (cr_any hc) (opN_1 g_any) hg hm (by rfl) (a_cons ha a_nil hs) (hs := hs)
/-! ### tuple(x), list(x) -/
def gTupOf : W → Option W
  | (k, .lst ds) => if k ≤ 1 then some (0, .tup ds) else none
  | (_, .tup ds) => some (0, .tup ds)
  | (_, .ktp ds) => some (0, .ktp ds)
  | _ => none
theorem g_tupOf : Op1 K (fun x H Q => ∃ p ys, [x] = [.ref p] ∧ ((SqL K H p ys ∧ ∀ l, H l = none → Q (.ref l) (upd H l (.tup ys))) ∨ (SqT K H p ys ∧ Q (.ref p) H))) gTupOf := by
  intro G H u x Fu w e ru hw
  unfold gTupOf at hw; split at hw
  · split at hw
    · rename_i hk
      cases hw
      obtain ⟨a, xs, rfl, h1, h2⟩ := ru.lst1 e hk
      exact Res.tup e h2 fun Q q => ⟨a, xs, rfl, .inl ⟨SqL.of h1, q⟩⟩
    · cases hw
  · cases hw
    obtain ⟨a, xs, rfl, h1, h2⟩ := ru.tupE
    exact Res.pure e ⟨a, xs, rfl, h1, h2⟩ fun Q q => ⟨a, xs, rfl, .inr ⟨SqT.of (e _ _ h1), q⟩⟩
  · cases hw
    obtain ⟨a, xs, rfl, h1, h2⟩ := ru.ktp
    exact Res.pure e ⟨a, xs, rfl, h1, h2⟩ fun Q q => ⟨a, xs, rfl, .inr ⟨same_t e h1.sq, q⟩⟩
  · cases hw
theorem e_tupOf {p : Pos} (hg : Gl X "tuple") (hm : X.mg "tuple" = none) (ha : OkE X a A) (hs : starEach (a :: []) X.env = (false, eval a X.env) :: starEach [] X.env := by rfl) : OkE X (.Call (.Name "tuple" p) [a] [] pos) (pCall (on1 gTupOf) (aCons A aNil)) :=
  e_ty call_tuple_of (opN_1 g_tupOf) hg hm (by rfl) (a_cons ha a_nil hs) (hs := hs)
def gLstOf : W → Option W := fun u => (itemsD u).map fun ds => (1, .lst ds)
theorem g_lstOf : Op1 K (fun x H Q => ∃ p ys, [x] = [.ref p] ∧ (SqL K H p ys ∨ SqT K H p ys) ∧ ∀ l, H l = none → Q (.ref l) (upd H l (.lst ys))) gLstOf := by
  intro G H u x Fu w e ru hw
  obtain ⟨ds, hd, rfl⟩ := Option.map_eq_some_iff.mp hw
  obtain ⟨a, xs, rfl, h1, h2⟩ := items_rep e hd ru
  exact Res.lst e h2 fun Q q => ⟨a, xs, rfl, h1, q⟩
theorem e_lstOf {p : Pos} (hg : Gl X "list") (hm : X.mg "list" = none) (ha : OkE X a A) (hs : starEach (a :: []) X.env = (false, eval a X.env) :: starEach [] X.env := by rfl) : OkE X (.Call (.Name "list" p) [a] [] pos) (pCall (on1 gLstOf) (aCons A aNil)) :=
  e_ty call_list_of (opN_1 g_lstOf) hg hm (by rfl) (a_cons ha a_nil hs) (hs := hs)
end
end Pv
set_option Elab.async false
set_option linter.all false
set_option maxRecDepth 100000
/-! P13: dicts that are walked; sorted -/
namespace Pv
open PySem PySem.Spec PyProof.Rows L2
theorem PE.or {X : Cx} {e : Expr} {t t' : TE} (h : PE X e t) (h' : PE X e t') : PE X e fun σ H Q => t σ H Q ∨ t' σ H Q := ⟨fun pins s σ H Q I q => q.elim (h.run pins s σ H Q I) (h'.run pins s σ H Q I)⟩
theorem PS.or {X : Cx} {st : Stmt} {t t' : TS} (h : PS X st t) (h' : PS X st t') : PS X st fun D σ H => t D σ H ∨ t' D σ H := ⟨fun pins s σ H D I q => q.elim (h.run pins s σ H D I) (h'.run pins s σ H D I)⟩
/-- the same data are read -/
structure Sim (G G' : Hp) : Prop where
  tup : ∀ a xs, G a = some (.tup xs) → G' a = some (.tup xs)
  lst : ∀ a xs, G a = some (.lst xs) → G' a = some (.lst xs)
  ft : ∀ a od xs, G a = some (.frz od (.tup xs)) → G' a = some (.frz od (.tup xs))
  rl : ∀ a xs, Rd G a (.lst xs) → Rd G' a (.lst xs)
  rd : ∀ a t xs, Rd G a (hoD t xs) → Rd G' a (hoD t xs)
section
variable {X : Cx} {K : PySem.W.Frag} {G0 G G1 G' H H' : Hp} {σ : L2.St} {ρ : Env} {ws : List (V × Arg)} {F F1 F2 : List Addr} {e a b c tg : Expr} {es : List Expr} {pos : Pos} {A B C : Fe} {T : Fb} {f : Fs} {body : List Stmt}
mutual
theorem RepF.sim (S : Sim G G') : ∀ (d : D) (v : V), RepF K G d v → RepF K G' d v
  | .non, _, h => h
  | .bl _, _, h => h
  | .int _, _, h => h
  | .str _, _, h => h
  | .tup ds, _, ⟨a, xs, h1, h2, h3⟩ => ⟨a, xs, h1, S.tup _ _ h2, RepFs.sim S ds xs h3⟩
  | .ktp ds, _, ⟨a, xs, h1, h2, h3⟩ => ⟨a, xs, h1, h2.elim .inl fun ⟨od, q1, q2⟩ => .inr ⟨od, q1, S.ft _ _ _ q2⟩, RepFs.sim S ds xs h3⟩
  | .lst ds, _, ⟨a, xs, h1, h2, h3⟩ => ⟨a, xs, h1, S.lst _ _ h2, RepFs.sim S ds xs h3⟩
  | .dct t ds, _, ⟨a, xs, h1, h2, h4, h3⟩ => ⟨a, xs, h1, S.rd _ _ _ h2, h4, RepFk.sim S ds xs h3⟩
  | .scr ns, _, ⟨a, h1, h2⟩ => ⟨a, h1, h2.elim (fun z => .inl (S.rl _ _ z)) .inr⟩
theorem RepFs.sim (S : Sim G G') : ∀ (ds : List D) (xs : List V), RepFs K G ds xs → RepFs K G' ds xs
  | [], _, h => h
  | d :: ds, _, ⟨x, r, h1, h2, h3⟩ => ⟨x, r, h1, RepF.sim S d x h2, RepFs.sim S ds r h3⟩
theorem RepFk.sim (S : Sim G G') : ∀ (ds : List (List Key × D)) (xs : List (List Key × V)), RepFk K G ds xs → RepFk K G' ds xs
  | [], _, h => h
  | (_, d) :: ds, _, ⟨x, r, h1, h2, h3⟩ => ⟨x, r, h1, RepF.sim S d x h2, RepFk.sim S ds r h3⟩
end
theorem RO.sim (S : Sim G G') : ∀ (k : Nat) (d : D) (v : V) (F : List Addr), (∀ a ∈ F, H' a = H a) → RO K G H k d v F → RO K G' H' k d v F
  | 0, d, v, _, _, h => ⟨RepF.sim S d v h.1, h.2⟩
  | k + 1, .lst ds, _, F, f, ⟨a, xs, F', h1, h2, h3, h4⟩ => ⟨a, xs, F', h1, by rw [f a (by rw [h3]; exact List.mem_cons_self), h2], h3,
      ROs.imp ds xs F' (fun d v F1 s => RO.sim S k d v F1 fun b hb => f b (by rw [h3]; exact List.mem_cons_of_mem _ (s b hb))) h4⟩
  | k + 1, .dct t ds, _, F, f, ⟨a, xs, F', h1, h2, h5, h3, h4⟩ => ⟨a, xs, F', h1, by rw [f a (by rw [h3]; exact List.mem_cons_self), h2], h5, h3,
      ROk.imp ds xs F' (fun d v F1 s => RO.sim S k d v F1 fun b hb => f b (by rw [h3]; exact List.mem_cons_of_mem _ (s b hb))) h4⟩
  | k + 1, .non, v, _, _, h => h
  | k + 1, .bl _, v, _, _, h => h
  | k + 1, .int _, v, _, _, h => h
  | k + 1, .str _, v, _, _, h => h
  | k + 1, .tup ds, v, _, _, h => ⟨RepF.sim S (.tup ds) v h.1, h.2⟩
  | k + 1, .scr ns, v, _, _, h => ⟨RepF.sim S (.scr ns) v h.1, h.2⟩
  | k + 1, .ktp ds, v, _, _, h => ⟨RepF.sim S (.ktp ds) v h.1, h.2⟩
theorem RSl.sim (S : Sim G G') : ∀ (σ : L2.St) (ρ : Env) (F : List Addr), (∀ a ∈ F, H' a = H a) → RSl K G H σ ρ F → RSl K G' H' σ ρ F
  | [], [], _, _, h => h
  | _ :: _, [], _, _, h => h
  | [], none :: ρ, F, f, h => RSl.sim S [] ρ F f h
  | [], some _ :: _, _, _, h => h
  | _ :: σ, none :: ρ, F, f, h => RSl.sim S σ ρ F f h
  | s :: σ, some w :: ρ, F, f, ⟨v, F1, F2, h1, h2, h3, h4⟩ => ⟨v, F1, F2, h1, h2, RO.sim S _ _ _ F1 (fun a ha => f a (by rw [h2]; exact List.mem_append_left _ ha)) h3,
      RSl.sim S σ ρ F2 (fun a ha => f a (by rw [h2]; exact List.mem_append_right _ ha)) h4⟩
theorem RWs.sim (S : Sim G G') : ∀ (ws : List (V × Arg)) (F : List Addr), (∀ a ∈ F, H' a = H a) → RWs K G H σ ρ ws F → RWs K G' H' σ ρ ws F
  | [], _, _, h => h
  | (x, .v k d) :: ws, F, f, ⟨F1, F2, h2, h3, h4⟩ => ⟨F1, F2, h2, RO.sim S _ _ _ F1 (fun a ha => f a (by rw [h2]; exact List.mem_append_left _ ha)) h3,
      RWs.sim S ws F2 (fun a ha => f a (by rw [h2]; exact List.mem_append_right _ ha)) h4⟩
  | (x, .r i) :: ws, F, f, ⟨h1, h2, h3⟩ => ⟨h1, h2, RWs.sim S ws F f h3⟩
theorem hoD_ne_tup {t : Bool} {xs : List (List Key × V)} {ys : List V} : hoD t xs ≠ .tup ys := by cases t <;> intro h <;> cases h
theorem hoD_ne_lst {t : Bool} {xs : List (List Key × V)} {ys : List V} : hoD t xs ≠ .lst ys := by cases t <;> intro h <;> cases h
theorem hoD_ne_frz {t : Bool} {xs : List (List Key × V)} {o : Obj} {u : HO} : hoD t xs ≠ .frz o u := by cases t <;> intro h <;> cases h
theorem Sim.lock {p : Addr} {t : Bool} {xs : List (List Key × V)} {od : Obj} (h : G p = some (hoD t xs)) : Sim G (upd G p (.frz od (hoD t xs))) where
  tup := fun a ys q => by
    by_cases e : a = p
    · subst e; rw [h] at q; exact absurd (Option.some.inj q) hoD_ne_tup
    · rw [upd_ne e]; exact q
  lst := fun a ys q => by
    by_cases e : a = p
    · subst e; rw [h] at q; exact absurd (Option.some.inj q) hoD_ne_lst
    · rw [upd_ne e]; exact q
  ft := fun a od ys q => by
    by_cases e : a = p
    · subst e; rw [h] at q; exact absurd (Option.some.inj q) hoD_ne_frz
    · rw [upd_ne e]; exact q
  rl := fun a ys q => by
    by_cases e : a = p
    · subst e
      rcases q with q | ⟨o, q⟩
      · rw [h] at q; exact absurd (Option.some.inj q) hoD_ne_lst
      · rw [h] at q; exact absurd (Option.some.inj q) hoD_ne_frz
    · unfold Rd; rw [upd_ne e]; exact q
  rd := fun a t' ys q => by
    by_cases e : a = p
    · subst e
      rcases q with q | ⟨o, q⟩
      · rw [h] at q
        rw [← Option.some.inj q]
        exact .inr ⟨od, upd_same⟩
      · rw [h] at q; exact absurd (Option.some.inj q) hoD_ne_frz
    · unfold Rd; rw [upd_ne e]; exact q
theorem Sim.unlock {p : Addr} {t : Bool} {xs : List (List Key × V)} {od : Obj} (h : G p = some (.frz od (hoD t xs))) : Sim G (upd G p (hoD t xs)) where
  tup := fun a ys q => by
    by_cases e : a = p
    · subst e; rw [h] at q; cases q
    · rw [upd_ne e]; exact q
  lst := fun a ys q => by
    by_cases e : a = p
    · subst e; rw [h] at q; cases q
    · rw [upd_ne e]; exact q
  ft := fun a od ys q => by
    by_cases e : a = p
    · subst e
      rw [h] at q
      have := Option.some.inj q
      injection this with _ this
      exact absurd this hoD_ne_tup
    · rw [upd_ne e]; exact q
  rl := fun a ys q => by
    by_cases e : a = p
    · subst e
      rcases q with q | ⟨o, q⟩
      · rw [h] at q; cases q
      · rw [h] at q
        have := Option.some.inj q
        injection this with _ this
        exact absurd this hoD_ne_lst
    · unfold Rd; rw [upd_ne e]; exact q
  rd := fun a t' ys q => by
    by_cases e : a = p
    · subst e
      rcases q with q | ⟨o, q⟩
      · rw [h] at q
        exact absurd (Option.some.inj q).symm hoD_ne_frz
      · rw [h] at q
        have := Option.some.inj q
        injection this with _ this
        rw [this]
        exact .inl upd_same
    · unfold Rd; rw [upd_ne e]; exact q
theorem Si.lock {p : Addr} {t : Bool} {xs : List (List Key × V)} (I : Si K G0 σ ρ ws H G F1 F2) (h : G p = some (hoD t xs)) (od : Obj) : Si K (upd G p (.frz od (hoD t xs))) σ ρ ws (upd H p (.frz od (hoD t xs))) (upd G p (.frz od (hoD t xs))) F1 F2 := by
  have ne : ∀ a, a ∈ F1 ++ F2 → a ≠ p := fun a ha e => by
    subst e
    have := I.fr a ha
    rw [h] at this; cases this
  refine ⟨Same.refl _, fun b o q => ?_, RSl.sim (Sim.lock h) _ _ _ (fun a ha => upd_ne (ne a (List.mem_append_left _ ha))) I.sl, RWs.sim (Sim.lock h) _ _ (fun a ha => upd_ne (ne a (List.mem_append_right _ ha))) I.wv, I.nd, fun a ha => by rw [upd_ne (ne a ha)]; exact I.fr a ha, fun b o q1 q2 => ?_, I.ln⟩
  · by_cases e : b = p
    · subst e; rw [upd_same] at q ⊢; exact q
    · rw [upd_ne e] at q ⊢; exact I.ex b o q
  · by_cases e : b = p
    · subst e; rw [upd_same] at q1 ⊢; exact q1
    · rw [upd_ne e] at q1 ⊢; exact I.tu b o q1 q2
theorem Si.unlock {p : Addr} {t : Bool} {xs : List (List Key × V)} {od : Obj} (I : Si K G1 σ ρ ws H G F1 F2) (h1 : G1 p = some (.frz od (hoD t xs))) (h0 : ∀ b o, G0 b = some o → b = p ∧ o = hoD t xs ∨ b ≠ p ∧ G1 b = some o) :
    Si K G0 σ ρ ws (upd H p (hoD t xs)) (upd G p (hoD t xs)) F1 F2 := by
  have h : G p = some (.frz od (hoD t xs)) := I.ex0 _ _ h1
  have ne : ∀ a, a ∈ F1 ++ F2 → a ≠ p := fun a ha e => by
    subst e
    have := I.fr a ha
    rw [h] at this; cases this
  refine ⟨fun b o q => ?_, fun b o q => ?_, RSl.sim (Sim.unlock h) _ _ _ (fun a ha => upd_ne (ne a (List.mem_append_left _ ha))) I.sl, RWs.sim (Sim.unlock h) _ _ (fun a ha => upd_ne (ne a (List.mem_append_right _ ha))) I.wv, I.nd, fun a ha => by rw [upd_ne (ne a ha)]; exact I.fr a ha, fun b o q1 q2 => ?_, I.ln⟩
  · rcases h0 b o q with ⟨e1, e2⟩ | ⟨e1, e2⟩
    · subst e1 e2; exact upd_same
    · rw [upd_ne e1]; exact I.ex0 b o e2
  · by_cases e : b = p
    · subst e; rw [upd_same] at q ⊢; exact q
    · rw [upd_ne e] at q ⊢; exact I.ex b o q
  · by_cases e : b = p
    · subst e; rw [upd_same] at q1; cases q1; exact absurd (isOwn_hoD t xs) q2
    · rw [upd_ne e] at q1 ⊢; exact I.tu b o q1 q2
/-- the dict in slot i is locked -/
def LockAt (K : PySem.W.Frag) (i : Nat) (G : Hp) (σ : L2.St) (ρ : Env) : Prop := ∃ p od t xs kvs, σ[i]? = some (some (.ref p)) ∧ ρ[i]? = some (some (0, .dct t kvs)) ∧ G p = some (.frz od (hoD t xs)) ∧ keysOk t xs ∧ RepFk K G kvs xs
def tEZ (K : PySem.W.Frag) (Z : Hp → L2.St → Env → Prop) (f : Fe) : TE := fun σ H Q => ∃ G0 ρ ws a, SI K G0 σ ρ ws H ∧ Z G0 σ ρ ∧ f ρ = some a ∧ ∀ v H', SI K G0 σ ρ ((v, a) :: ws) H' → Q v H'
def tIcZ (K : PySem.W.Frag) (Z : Hp → L2.St → Env → Prop) (f : Fit) : L2.TI := fun σ H R => ∃ G0 ρ ws ds, SI K G0 σ ρ ws H ∧ Z G0 σ ρ ∧ f ρ = some ds ∧ ∀ J H' G1, Same G0 G1 → SI K G1 σ ρ ws H' → Items K J ds (fun G H => ∃ ws' F1 F2, Si K G1 σ ρ ws' H G F1 F2) → R J H'
def tIZ (K : PySem.W.Frag) (Z : Hp → L2.St → Env → Prop) (f : Fit) : L2.TI := fun σ H R => ∃ G0 ρ ds, SI K G0 σ ρ [] H ∧ Z G0 σ ρ ∧ f ρ = some ds ∧ ∀ J H' G1, Same G0 G1 → SI K G1 σ ρ [] H' → Items K J ds (fun G H => Same G1 G ∧ Same G H ∧ ∀ b o, H b = some o → ¬ isOwn o → G b = some o) → R J H'
/-- what a locked slot allows, the lock laid and taken off -/
theorem lockE_imp {i : Nat} {σ : L2.St} {H : Hp} {Q : VK} {f : Fe} (hs : ∀ ρ a, f ρ = some a → ∃ t kvs, ρ[i]? = some (some (0, .dct t kvs))) (h : tE K f σ H Q) : tLockE (tEZ K (LockAt K i) f) σ H Q ∨ tEZ K (LockAt K i) f σ H Q := by
  obtain ⟨G0, ρ, ws, a, ⟨G, F1, F2, J⟩, hf, q⟩ := h
  obtain ⟨t, kvs, hρ⟩ := hs ρ a hf
  obtain ⟨v, Fi, h1, ⟨h2, _⟩, _⟩ := J.sl.at hρ
  obtain ⟨p, xs, rfl, hr, ok, rk⟩ := h2
  rcases hr with hr | ⟨od, hr⟩
  · refine .inl ⟨p, hoD t xs, J.ex _ _ hr, by cases t <;> trivial, fun od => ⟨upd G p (.frz od (hoD t xs)), ρ, ws, a, (J.lock hr od).SI, ⟨p, od, t, xs, kvs, h1, hρ, upd_same, ok, RepFk.sim (Sim.lock hr) _ _ rk⟩, hf, fun v H' I' => ?_⟩⟩
    obtain ⟨G', F3, F4, J'⟩ := I'
    refine ⟨J'.ex _ _ (J'.ex0 _ _ upd_same), q v _ (J'.unlock upd_same fun b o q => ?_).SI⟩
    by_cases e : b = p
    · subst e
      have := J.ex0 _ _ q
      rw [hr] at this
      exact .inl ⟨rfl, (Option.some.inj this).symm⟩
    · exact .inr ⟨e, by rw [upd_ne e]; exact J.ex0 _ _ q⟩
  · exact .inr ⟨G, ρ, ws, a, J.up, ⟨p, od, t, xs, kvs, h1, hρ, hr, ok, rk⟩, hf, fun v H' I' => q v H' (I'.base J.ex0)⟩
def kD : Key → D
  | .inl i => .int i
  | .inr s => .str s
def keyDat : Bool → List Key → D
  | false, ks => kD (ks.headD (.inl 0))
  | true, ks => .tup (ks.map kD)
theorem kD_rep (k : Key) : RepF K G (kD k) (kV k) := by cases k <;> exact rfl
theorem kDs_rep : ∀ ks : List Key, RepFs K G (ks.map kD) (ks.map kV)
  | [] => rfl
  | k :: ks => ⟨_, _, rfl, kD_rep k, kDs_rep ks⟩
def iKeysF (i : Nat) : Fit := fun ρ => match (ρ[i]?).join with
  | some (0, .dct t kvs) => some (kvs.map fun p => keyDat t p.1)
  | _ => none
theorem RepFk.key : ∀ {kvs : List (List Key × D)} {xs : List (List Key × V)} {i : Nat} {k : List Key} {v : V}, RepFk K G kvs xs → xs[i]? = some (k, v) → ∃ d, kvs[i]? = some (k, d)
  | [], _, _, _, _, h, e => by rw [show _ = [] from h] at e; simp at e
  | (k', d') :: r, _, 0, k, v, ⟨x, xs, h1, h2, h3⟩, e => by subst h1; simp at e; exact ⟨d', by rw [e.1]; rfl⟩
  | (k', d') :: r, _, i + 1, k, v, ⟨x, xs, h1, h2, h3⟩, e => by
    subst h1
    obtain ⟨d, hd⟩ := RepFk.key h3 (by simpa using e)
    exact ⟨d, by simpa using hd⟩
def itKeys : Bool → Addr → Obj → List (List Key × V) → It
  | false, p, od, xs => Itk p od (xs.map fun p => (p.1.headD (.inl 0), p.2))
  | true, p, od, xs => Itkt p od xs
theorem Items.keys {p : Addr} {od : Obj} {t : Bool} {xs : List (List Key × V)} {kvs : List (List Key × D)} (h : G1 p = some (.frz od (hoD t xs))) (ok : keysOk t xs) (rk : RepFk K G1 kvs xs) :
    Items K (itKeys t p od xs) (kvs.map fun p => keyDat t p.1) (fun G H => Same G1 G ∧ Same G H ∧ ∀ b o, H b = some o → ¬ isOwn o → G b = some o) := by
  have hl := rk.len
  cases t with
  | false =>
    refine ⟨fun i G H hi ⟨e1, e2, _⟩ => ⟨e2 _ _ (e1 _ _ h), by simpa [hl] using hi⟩, fun G H ⟨e1, e2, _⟩ => ⟨e2 _ _ (e1 _ _ h), by simp [hl]⟩, fun i G H x H' hi ⟨e1, e2, _⟩ ⟨hy, k, v, hk, hx⟩ => ?_⟩
    subst hy hx
    rw [List.getElem?_map] at hk
    obtain ⟨⟨ks, v'⟩, hq, he⟩ := Option.map_eq_some_iff.mp hk
    cases he
    obtain ⟨d, hd⟩ := rk.key hq
    refine ⟨G, kD (ks.headD (.inl 0)), Grow.refl e2, by rw [List.getElem?_map, hd]; rfl, kD_rep _⟩
  | true =>
    refine ⟨fun i G H hi ⟨e1, e2, _⟩ => ⟨e2 _ _ (e1 _ _ h), by simpa [hl] using hi⟩, fun G H ⟨e1, e2, _⟩ => ⟨e2 _ _ (e1 _ _ h), by simp [hl]⟩, fun i G H x H' hi ⟨e1, e2, e3⟩ ⟨hy, k, v, q, hk, hx, hq⟩ => ?_⟩
    subst hy hx
    obtain ⟨d, hd⟩ := rk.key hk
    exact ⟨G, .tup (k.map kD), Grow.refl e2, by rw [List.getElem?_map, hd]; rfl, q, _, rfl, e3 _ _ hq (fun z => z), kDs_rep k⟩
theorem keys_core {σ : L2.St} {H : Hp} {i : Nat} {p : Addr} {od : Obj} {t : Bool} {xs : List (List Key × V)} {R : It → Hp → Prop} (e : Same G1 H) (h : G1 p = some (.frz od (hoD t xs))) (h1 : σ[i]? = some (some (.ref p)))
    (q : R (itKeys t p od xs) H) : iKeys (tVar i) σ H R := by
  refine ⟨.ref p, h1, p, od, rfl, ?_⟩
  cases t with
  | false => exact .inl ⟨_, e _ _ h, q⟩
  | true => exact .inr ⟨_, e _ _ h, q⟩
theorem c_keys {i : Nat} (he : PE X e (tVar i)) : PI X tg e (tIcZ X.K (LockAt X.K i) (iKeysF i)) := PI.imp (pi_keys he) fun σ H R ⟨G0, ρ, ws, ds, I, ⟨p, od, t, xs, kvs, h1, hρ, hg, ok, rk⟩, hf, q⟩ => by
  obtain ⟨G, F1, F2, J⟩ := I
  unfold iKeysF at hf
  rw [hρ] at hf
  cases hf
  refine keys_core (t := t) (xs := xs) (J.ex0.trans J.ex) hg h1 (q (itKeys t p od xs) H G0 (Same.refl _) J.SI ((Items.keys hg ok rk).mono fun G H ⟨_, _, _, I⟩ => ⟨I.ex0, I.ex, I.tu⟩))
theorem i_keys {i : Nat} (he : PE X e (tVar i)) : PI X tg e (tIZ X.K (LockAt X.K i) (iKeysF i)) := PI.imp (pi_keys he) fun σ H R ⟨G0, ρ, ds, I, ⟨p, od, t, xs, kvs, h1, hρ, hg, ok, rk⟩, hf, q⟩ => by
  obtain ⟨G, F1, F2, J⟩ := I
  unfold iKeysF at hf
  rw [hρ] at hf
  cases hf
  exact keys_core (t := t) (xs := xs) (J.ex0.trans J.ex) hg h1 (q (itKeys t p od xs) H G0 (Same.refl _) J.SI (Items.keys hg ok rk))
theorem lcZ_imp {Z : Hp → L2.St → Env → Prop} {j : Nat} {it : Fit} {t : Tg} {vs : List Nat} (hsub : ∀ i ∈ slotsT t, i ∈ vs) (σ : L2.St) (H : Hp) (Q : VK) (h : tEZ K Z (pLc j it t vs T A) σ H Q) : tLc (tIcZ K Z it) (tG K t) (tT K T) (tE K A) vs σ H Q := by
  obtain ⟨G0, ρ, ws, a, I, hZ, hf, q⟩ := h
  unfold pLc at hf
  split at hf
  · rename_i hv
    obtain ⟨ds, hds, hf⟩ := Option.bind_eq_some_iff.mp hf
    split at hf
    · rename_i hbig
      obtain ⟨out, ho, rfl⟩ := Option.map_eq_some_iff.mp hf
      have hv' : ∀ v ∈ vs, plain0 ρ[v]? := fun v hm => lvl0_plain (List.all_eq_true.mp hv v hm)
      refine ⟨G0, ρ, ws, ds, I, hZ, hds, fun J H1 G1 e01 I1 items Dl hD => ?_⟩
      refine ⟨fun i m H => m = ds.length - i ∧ i ≤ ds.length ∧ ∃ acc rest, SI K G1 σ ρ ((.ref Dl, .v (j + 1) (.lst acc)) :: ws) H ∧ compL t T A j (wipeE ρ vs) (ds.drop i) = some rest ∧ acc ++ rest = out ∧ acc.length ≤ i, ⟨ds.length, by simp, Nat.zero_le _, [], out, ?_, ho, rfl, Nat.le_refl _⟩, ?_⟩
      · obtain ⟨G, F1, F2, S⟩ := I1
        have g := Grow.newO (o := .lst []) S.ex hD trivial
        exact (S.push (k := j + 1) (d := .lst []) g ⟨Dl, [], [], rfl, upd_same, rfl, rfl, rfl⟩).SI
      · rintro i m H2 ⟨rfl, hi, acc, rest, I2, hc, hout, hacc⟩
        by_cases hlt : i < ds.length
        · obtain ⟨G, F1, F2, S⟩ := I2
          refine .inr ⟨items.goes i G H2 hlt ⟨_, _, _, S⟩, ?_⟩
          rw [List.drop_eq_getElem_cons hlt] at hc
          obtain ⟨ρ1, hb1, hc⟩ := Option.bind_eq_some_iff.mp hc
          obtain ⟨b, hT, hc⟩ := Option.bind_eq_some_iff.mp hc
          refine ⟨fun H => ∃ acc rest, SI K G1 σ ρ ((.ref Dl, .v (j + 1) (.lst acc)) :: ws) H ∧ compL t T A j (wipeE ρ vs) (ds.drop (i + 1)) = some rest ∧ acc ++ rest = out ∧ acc.length ≤ i + 1, fun H' ⟨acc, rest, h1, h2, h3, h4⟩ => ⟨ds.length - (i + 1), by omega, rfl, hlt, acc, rest, h1, h2, h3, h4⟩, fun x H' y => ?_⟩
          obtain ⟨G', d, gr, hd, rd⟩ := items.yields i G H2 x H' hlt ⟨_, _, _, S⟩ y
          have ed : d = ds[i] := by rw [List.getElem?_eq_getElem hlt] at hd; exact (Option.some.inj hd).symm
          subst ed
          have S3 := S.grow gr
          -- within the block
          have Sw : Si K G' (wipe σ vs) (wipeE ρ vs) ((.ref Dl, .v (j + 1) (.lst acc)) :: strip ws) H' G' F1 F2 :=
            ⟨Same.refl _, S3.ex, RSl.wiped σ ρ F1 S3.sl S3.ln hv', by exact RWs.strip (ws := (.ref Dl, .v (j + 1) (.lst acc)) :: ws) S3.wv, S3.nd, S3.fr, S3.tu, by rw [wipe_length, wipeE_len]; exact S3.ln⟩
          obtain ⟨b1, b2, b3⟩ := bindT_but t (0, ds[i]) _ ρ1 hb1
          have hl1 : ρ1.length = ρ.length := by rw [b1, wipeE_len]
          have p1 : ∀ k ∈ vs, plain0 ρ[k]? ∧ plain0 ρ1[k]? := fun k hk => ⟨hv' k hk, b3 rfl k (wipeE_in hk)⟩
          refine ⟨G', wipeE ρ vs, (.ref Dl, .v (j + 1) (.lst acc)) :: strip ws, 0, ds[i], ρ1, noRef_strip ws, (Sw.pushF rd).SI, hb1, fun σ' but I' => ⟨wipe_but but hsub, G', ρ1, _, b, I', hT, fun H3 I3 => ?_⟩⟩
          have hl2 : σ'.length = σ.length := by rw [but.1, wipe_length]
          have p2 : ∀ k, k ∉ vs → ρ1[k]? = ρ[k]? ∧ σ'[k]? = σ[k]? := fun k hk => ⟨by rw [b2 k (fun z => hk (hsub k z)), wipeE_out hk], by rw [but.2 k (fun z => hk (hsub k z)), wipe_out hk]⟩
          cases b with
          | false =>
            rw [if_neg Bool.false_ne_true] at hc
            refine iteF ?_
            obtain ⟨G5, F5, F6, S5⟩ := I3
            have S6 := Si.unwipe (pre := []) (ws := (.ref Dl, .v (j + 1) (.lst acc)) :: ws) S3 S5 rfl hl1 hl2 p1 p2
            exact ⟨acc, rest, S6.SI, hc, hout, Nat.le_succ_of_le hacc⟩
          | true =>
            rw [if_pos rfl] at hc
            refine iteT ?_
            obtain ⟨a, hA, hc⟩ := Option.bind_eq_some_iff.mp hc
            cases a with
            | r n => cases hc
            | v k xd =>
              simp only at hc
              split at hc
              · rename_i hlv
                obtain ⟨rest', hr', rfl⟩ := Option.map_eq_some_iff.mp hc
                refine ⟨G', ρ1, _, _, I3, hA, fun y4 H4 I4 => ?_⟩
                obtain ⟨G5, F5, F6, S5⟩ := I4
                have S6 := Si.unwipe (pre := [(y4, .v k xd)]) (ws := (.ref Dl, .v (j + 1) (.lst acc)) :: ws) S3 S5 rfl hl1 hl2 p1 p2
                obtain ⟨xs, hx1, hx2, hx3⟩ := Si.addItem hlv S6
                refine ⟨xs, hx1, ?_, acc ++ [xd], rest', hx3, hr', by rw [List.append_assoc]; exact hout, by rw [List.length_append]; exact Nat.succ_le_succ hacc⟩
                rw [hx2]
                exact big_lt (by omega)
              · cases hc
        · have ei : i = ds.length := by omega
          subst ei
          rw [List.drop_length] at hc
          cases hc
          rw [List.append_nil] at hout
          subst hout
          obtain ⟨G, F1, F2, S⟩ := I2
          exact .inl ⟨items.stops G H2 ⟨_, _, _, S⟩, q _ H2 (S.SI.base e01)⟩
    · cases hf
  · cases hf
/-- [.. for x in d ..], d a dict in slot i -/
def pLcD (i j : Nat) (t : Tg) (vs : List Nat) (T : Fb) (A : Fe) : Fe := fun ρ => match (ρ[i]?).join with
  | some (0, .dct _ _) => pLc j (iKeysF i) t vs T A ρ
  | _ => none
theorem lcD_slot {i j : Nat} {t : Tg} {vs : List Nat} (ρ : Env) (a : Arg) (h : pLcD i j t vs T A ρ = some a) : ∃ t kvs, ρ[i]? = some (some (0, .dct t kvs)) := by
  unfold pLcD at h
  split at h
  · rename_i t' kvs hj
    exact ⟨t', kvs, join_some hj⟩
  · cases h
theorem lcD_pLc {i j : Nat} {t : Tg} {vs : List Nat} (ρ : Env) (a : Arg) (h : pLcD i j t vs T A ρ = some a) : pLc j (iKeysF i) t vs T A ρ = some a := by
  unfold pLcD at h
  split at h
  · exact h
  · cases h
theorem e_lcD {i j : Nat} {x : Str} {p : Pos} {t : Tg} {elt tg : Expr} {ifs : List Expr} {scope : Scope} {own : List (Str × Nat)} (hc : X.calm = true) (hN : X.N.Nodup) (ok : BlkOk X.N X.env.scope scope own)
    (hg : ∀ (s : Shared) (H : Hp) (C : Addr) (cl : List (Str × Addr)) (fp : List Addr), OkG (X.blk s H scope (compEnvC scope cl C X.env) fp) tg t) (ht : ∀ (s : Shared) (H : Hp) (C : Addr) (cl : List (Str × Addr)) (fp : List Addr), OkTs (X.blk s H scope (compEnvC scope cl C X.env) fp) ifs T)
    (he : ∀ (s : Shared) (H : Hp) (C : Addr) (cl : List (Str × Addr)) (fp : List Addr), OkE (X.blk s H scope (compEnvC scope cl C X.env) fp) elt A) (hx : X.N[i]? = some x := by rfl) (hv : Vis X.env.scope x := by first | exact Or.inl rfl | exact Or.inr (Or.inl rfl) | exact Or.inr (Or.inr rfl)) (hd : (x == ("__debug__" : Str)) = false := by decide)
    (hcd : (x == ("__classdict__" : Str)) = false := by decide) (hsub : ∀ i ∈ slotsT t, i ∈ own.map (·.2) := by decide) (hs : ∀ y, foldedSetIterable (.Name x p) X.env y = pure y := by exact fun _ => rfl) :
    OkE X (.ListComp elt [⟨tg, .Name x p, ifs, 0⟩] scope pos) (pLcD i j t (own.map (·.2)) T A) := by
  have h0 : PE X (.ListComp elt [⟨tg, .Name x p, ifs, 0⟩] scope pos) (tEZ X.K (LockAt X.K i) (pLcD i j t (own.map (·.2)) T A)) := PE.imp (pe_lc (g := tG X.K t) (tt := tT X.K T) (te := tE X.K A) hc hN (c_keys (pe_var hx hv hd hcd)) ok hg ht he hs) fun σ H Q ⟨G0, ρ, ws, a, I, hZ, hf, q⟩ =>
    lcZ_imp hsub σ H Q ⟨G0, ρ, ws, a, I, hZ, lcD_pLc ρ a hf, q⟩
  exact PE.imp (PE.or (pe_lock h0) h0) fun σ H Q h => lockE_imp lcD_slot h
def tSZ (K : PySem.W.Frag) (Z : Hp → L2.St → Env → Prop) (f : Fs) : TS := fun D σ H => ∃ G0 ρ fl ρ', SI K G0 σ ρ [] H ∧ Z G0 σ ρ ∧ f ρ = some (fl, ρ') ∧ Post K G0 D fl ρ'
theorem forZ {iter : Expr} {it : Fit} {t : Tg} {Z : Hp → L2.St → Env → Prop} (hp : PassesOwn (model X.prog X.w) X.A X.env X.xe) (hc : X.calm = true) (hi : PI X tg iter (tIZ X.K Z it)) (hg : OkG X tg t) (hb : OkB X body f) (hs : ∀ x, foldedSetIterable iter X.env x = pure x := by exact fun _ => rfl) :
    PS X (.For tg iter body [] pos) (tSZ X.K Z (sFor it t f)) := PS.imp (ps_for hp hc hi hg hb hs) fun D σ H ⟨G0, ρ, fl, ρ', I, hZ, hf, post⟩ => by
  obtain ⟨ds, hds, hf⟩ := Option.bind_eq_some_iff.mp hf
  refine ⟨G0, ρ, ds, I, hZ, hds, fun J H1 G1 e01 I1 it => ?_⟩
  refine ⟨fun i m σ H => m = ds.length - i ∧ i ≤ ds.length ∧ ∃ ρi, SI X.K G1 σ ρi [] H ∧ loopF t f (ds.drop i) ρi = some (fl, ρ'), ⟨ds.length, by simp, Nat.zero_le _, ρ, I1, hf⟩, ?_⟩
  rintro i m σ2 H2 ⟨rfl, hi, ρi, Ii, hl⟩
  by_cases hlt : i < ds.length
  · obtain ⟨G, F1, F2, J2⟩ := Ii
    refine .inr ⟨it.goes i G H2 hlt ⟨J2.ex0, J2.ex, J2.tu⟩, ?_⟩
    rw [List.drop_eq_getElem_cons hlt] at hl
    obtain ⟨ρ1, hb1, hl⟩ := Option.bind_eq_some_iff.mp hl
    obtain ⟨⟨fl1, ρ2⟩, hb2, hl⟩ := Option.bind_eq_some_iff.mp hl
    refine ⟨fun σ H => ∃ ρi, SI X.K G1 σ ρi [] H ∧ loopF t f (ds.drop (i + 1)) ρi = some (fl, ρ'), fun σ' H' ⟨ρi, h1, h2⟩ => ⟨ds.length - (i + 1), by omega, rfl, hlt, ρi, h1, h2⟩, fun x H' y => ?_⟩
    obtain ⟨G', d, gr, hd, rd⟩ := it.yields i G H2 x H' hlt ⟨J2.ex0, J2.ex, J2.tu⟩ y
    have ed : d = ds[i] := by rw [List.getElem?_eq_getElem hlt] at hd; exact (Option.some.inj hd).symm
    subst ed
    have J3 := (J2.grow gr).pushF rd
    refine ⟨G1, ρi, [], 0, ds[i], ρ1, rfl, J3.SI, hb1, fun σ' _ I' => ⟨G1, ρ1, fl1, ρ2, I', hb2, ?_⟩⟩
    cases fl1 with
    | nx => exact fun σ H I => ⟨ρ2, I, hl⟩
    | ct => exact fun σ H I => ⟨ρ2, I, hl⟩
    | bk => cases hl; exact fun σ H I => post σ H (I.base e01)
    | rt w => cases hl; exact fun v H r => post v H (r.base e01)
  · have ei : i = ds.length := by omega
    subst ei
    rw [List.drop_length] at hl
    cases hl
    obtain ⟨G, F1, F2, J2⟩ := Ii
    exact .inl ⟨it.stops G H2 ⟨J2.ex0, J2.ex, J2.tu⟩, post σ2 H2 (J2.SI.base e01)⟩
/-- for x in d: .., d a dict in slot i -/
def sForD (i : Nat) (t : Tg) (f : Fs) : Fs := fun ρ => match (ρ[i]?).join with
  | some (0, .dct _ _) => sFor (iKeysF i) t f ρ
  | _ => none
theorem lockS_imp {i : Nat} {σ : L2.St} {H : Hp} {D : Ends} {f : Fs} (hs : ∀ ρ a, f ρ = some a → ∃ t kvs, ρ[i]? = some (some (0, .dct t kvs))) (h : tS K f D σ H) : tLock (tSZ K (LockAt K i) f) D σ H ∨ tSZ K (LockAt K i) f D σ H := by
  obtain ⟨G0, ρ, fl, ρ', ⟨G, F1, F2, J⟩, hf, post⟩ := h
  obtain ⟨t, kvs, hρ⟩ := hs ρ _ hf
  obtain ⟨v, Fi, h1, ⟨h2, _⟩, _⟩ := J.sl.at hρ
  obtain ⟨p, xs, rfl, hr, ok, rk⟩ := h2
  rcases hr with hr | ⟨od, hr⟩
  · refine .inl ⟨p, hoD t xs, J.ex _ _ hr, by cases t <;> trivial, fun od => ⟨upd G p (.frz od (hoD t xs)), ρ, fl, ρ', (J.lock hr od).SI, ⟨p, od, t, xs, kvs, h1, hρ, upd_same, ok, RepFk.sim (Sim.lock hr) _ _ rk⟩, hf, ?_⟩⟩
    have h0 : ∀ b o, G0 b = some o → b = p ∧ o = hoD t xs ∨ b ≠ p ∧ upd G p (.frz od (hoD t xs)) b = some o := fun b o q => by
      by_cases e : b = p
      · subst e
        have := J.ex0 _ _ q
        rw [hr] at this
        exact .inl ⟨rfl, (Option.some.inj this).symm⟩
      · exact .inr ⟨e, by rw [upd_ne e]; exact J.ex0 _ _ q⟩
    have go : ∀ (N : L2.St → Hp → Prop), (∀ σ H, SI K G0 σ ρ' [] H → N σ H) → ∀ σ H, SI K (upd G p (.frz od (hoD t xs))) σ ρ' [] H → H p = some (.frz od (hoD t xs)) ∧ N σ (upd H p (hoD t xs)) := fun N hN σ H I' => by
      obtain ⟨G', F3, F4, J'⟩ := I'
      exact ⟨J'.ex _ _ (J'.ex0 _ _ upd_same), hN _ _ (J'.unlock upd_same h0).SI⟩
    cases fl with
    | nx => exact go _ post
    | bk => exact go _ post
    | ct => exact go _ post
    | rt w =>
      intro v H' ⟨G', F, e1, e2, r, nd, fr, tu⟩
      have hp : G' p = some (.frz od (hoD t xs)) := e1 _ _ upd_same
      have ne : ∀ a ∈ F, a ≠ p := fun a ha e => by
        subst e
        have := fr a ha
        rw [hp] at this; cases this
      refine ⟨e2 _ _ hp, post _ _ ⟨upd G' p (hoD t xs), F, fun b o q => ?_, fun b o q => ?_, RO.sim (Sim.unlock hp) _ _ _ F (fun a ha => upd_ne (ne a ha)) r, nd, fun a ha => by rw [upd_ne (ne a ha)]; exact fr a ha, fun b o q1 q2 => ?_⟩⟩
      · rcases h0 b o q with ⟨e3, e4⟩ | ⟨e3, e4⟩
        · subst e3 e4; exact upd_same
        · rw [upd_ne e3]; exact e1 b o e4
      · by_cases e : b = p
        · subst e; rw [upd_same] at q ⊢; exact q
        · rw [upd_ne e] at q ⊢; exact e2 b o q
      · by_cases e : b = p
        · subst e; rw [upd_same] at q1; cases q1; exact absurd (isOwn_hoD t xs) q2
        · rw [upd_ne e] at q1 ⊢; exact tu b o q1 q2
  · refine .inr ⟨G, ρ, fl, ρ', J.up, ⟨p, od, t, xs, kvs, h1, hρ, hr, ok, rk⟩, hf, ?_⟩
    cases fl with
    | nx => exact fun σ H I => post σ H (I.base J.ex0)
    | bk => exact fun σ H I => post σ H (I.base J.ex0)
    | ct => exact fun σ H I => post σ H (I.base J.ex0)
    | rt w => exact fun v H r => post v H (r.base J.ex0)
theorem s_forD {i : Nat} {x : Str} {p : Pos} {t : Tg} (hp : PassesOwn (model X.prog X.w) X.A X.env X.xe) (hc : X.calm = true) (hg : OkG X tg t) (hb : OkB X body f) (hx : X.N[i]? = some x := by rfl) (hv : Vis X.env.scope x := by first | exact Or.inl rfl | exact Or.inr (Or.inl rfl) | exact Or.inr (Or.inr rfl)) (hd : (x == ("__debug__" : Str)) = false := by decide)
    (hcd : (x == ("__classdict__" : Str)) = false := by decide) (hs : ∀ y, foldedSetIterable (.Name x p) X.env y = pure y := by exact fun _ => rfl) : OkS X (.For tg (.Name x p) body [] pos) (sForD i t f) := by
  have h0 : PS X (.For tg (.Name x p) body [] pos) (tSZ X.K (LockAt X.K i) (sForD i t f)) := PS.imp (forZ (t := t) hp hc (i_keys (pe_var hx hv hd hcd)) hg hb hs) fun D σ H ⟨G0, ρ, fl, ρ', I, hZ, hf, post⟩ => by
    refine ⟨G0, ρ, fl, ρ', I, hZ, ?_, post⟩
    unfold sForD at hf
    split at hf
    · exact hf
    · cases hf
  refine PS.imp (PS.or (ps_lock h0) h0) fun D σ H h => lockS_imp (fun ρ a h => ?_) h
  unfold sForD at h
  split at h
  · rename_i t' kvs hj
    exact ⟨t', kvs, join_some hj⟩
  · cases h
end
end Pv
set_option Elab.async false
set_option linter.all false
set_option maxRecDepth 100000
/-! P14: sorted -/
namespace Pv
open PySem PySem.Spec PyProof.Rows L2 PySem.W
def encD (d : D) : PyData := (toPy d).getD .none
def isTupNE : PyData → Bool
  | .tuple (_ :: _) => true
  | _ => false
def notTup : PyData → Bool
  | .tuple _ => false
  | .none => false
  | _ => true
def okSort (ps : List PyData) : Bool := (ps.all fun p => decide (p.depth ≤ 60) && ps.all fun q => alike p q) && (ps.all isTupNE || ps.all notTup)
def leD : D → D → Bool := dataLe false encD
section
variable {X : Cx} {K : PySem.W.Frag} {G0 G G1 G' H H' : Hp} {σ : L2.St} {ρ : Env} {ws : List (V × Arg)} {F F1 F2 : List Addr} {e a b c tg : Expr} {es : List Expr} {pos : Pos} {A B C : Fe}
theorem okSort_alike {ps : List PyData} (h : okSort ps = true) : AllAlike ps := fun p hp q hq => by
  unfold okSort at h
  rw [Bool.and_eq_true] at h
  have := List.all_eq_true.mp h.1 p hp
  rw [Bool.and_eq_true] at this
  exact List.all_eq_true.mp this.2 q hq
theorem okSort_depth {ps : List PyData} (h : okSort ps = true) {p : PyData} (hp : p ∈ ps) : p.depth ≤ 60 := by
  unfold okSort at h
  rw [Bool.and_eq_true] at h
  have := List.all_eq_true.mp h.1 p hp
  rw [Bool.and_eq_true] at this
  exact of_decide_eq_true this.1
theorem okSort_kind {ps : List PyData} (h : okSort ps = true) : Sortable ps := by
  unfold okSort at h
  rw [Bool.and_eq_true, Bool.or_eq_true] at h
  rcases h.2 with h | h
  · refine .inl fun d hd => ?_
    have := List.all_eq_true.mp h d hd
    unfold isTupNE at this
    split at this
    · exact ⟨_, _, rfl⟩
    · cases this
  · refine .inr fun d hd => ?_
    have := List.all_eq_true.mp h d hd
    unfold notTup at this
    split at this
    · cases this
    · cases this
    · rename_i h1 h2
      exact ⟨fun z => h2 z, fun xs z => h1 xs z⟩
theorem encD_of {d : D} {p : PyData} (h : toPy d = some p) : encD d = p := by unfold encD; rw [h]; rfl
theorem toPys_enc : ∀ {ds : List D} {ps : List PyData}, toPys ds = some ps → ps = ds.map encD ∧ ∀ d ∈ ds, toPy d = some (encD d)
  | [], _, h => by cases h; exact ⟨rfl, fun d hd => by cases hd⟩
  | d :: ds, _, h => by
    obtain ⟨p, hp, h⟩ := Option.bind_eq_some_iff.mp h
    obtain ⟨qs, hq, rfl⟩ := Option.map_eq_some_iff.mp h
    obtain ⟨h1, h2⟩ := toPys_enc hq
    refine ⟨by rw [List.map_cons, encD_of hp, ← h1], fun d' hd => ?_⟩
    rcases List.mem_cons.mp hd with rfl | hd
    · rw [encD_of hp]; exact hp
    · exact h2 d' hd
/-- a value that stands for data -/
def Std (K : PySem.W.Frag) (G : Hp) (u : Value) (d : D) : Prop := ∃ x, RepF K G d x ∧ RelV x u
theorem std_of : ∀ {ds : List D} {xs : List V} {us : List Value}, RepFs K G ds xs → Vals xs us → EachIs (Std K G) us ds
  | [], _, us, r, v => by
    rw [show _ = [] from r] at v
    cases v
    exact .nil
  | d :: ds, _, us, ⟨x, xs, h1, h2, h3⟩, v => by
    subst h1
    cases v with
    | cons r t => exact .cons ⟨x, h2, r⟩ (std_of h3 t)
theorem of_std : ∀ {ds : List D} {us : List Value}, EachIs (Std K G) us ds → ∃ xs, RepFs K G ds xs ∧ Vals xs us
  | _, _, .nil => ⟨[], rfl, .nil⟩
  | _, _, .cons ⟨x, h1, h2⟩ t => by
    obtain ⟨xs, h3, h4⟩ := of_std t
    exact ⟨x :: xs, ⟨x, xs, rfl, h1, h3⟩, .cons h2 h4⟩
theorem std_reads {pins : List (Addr × Obj)} {s : Shared} (I : Inv X pins σ H s) (e : Same G H) : ∀ {ds : List D} {us : List Value}, (∀ d ∈ ds, toPy d = some (encD d)) → EachIs (Std X.K G) us ds → EachIs (fun v b => ∃ as, Reads s.heap v (encD b) as) us ds
  | _, _, _, .nil => .nil
  | d :: ds, _, h, .cons ⟨x, h1, h2⟩ t => .cons (Dp.reads I _ x _ (dp_of e d _ x (h d List.mem_cons_self) h1) h2) (std_reads I e (fun d' hd => h d' (List.mem_cons_of_mem _ hd)) t)
def rSortedG (K : PySem.W.Frag) : List V → Hp → VK → Prop := fun vs H Q => ∃ (G : Hp) (ds : List D) (ps : List PyData) (a : Addr) (xs : List V), vs = [V.ref a] ∧ Same G H ∧ SqL K H a xs ∧ RepFs K G ds xs ∧ toPys ds = some ps ∧ okSort ps = true ∧ ds.length ≤ big ∧
  ∀ p ys, H p = none → RepFs K G (ds.mergeSort leD) ys → Q (.ref p) (upd H p (.lst ys))
theorem cr_sortedG (hu : X.A.units + 64 < cLine) : CallR X (.builtin "sorted") (rSortedG X.K) := by
  intro pins s σ H vs us Q I r h
  obtain ⟨G, ds, ps, a, xs, rfl, e, hs, hr, hp, ok, hz, q⟩ := h
  obtain ⟨its, rv, hl, _⟩ := I.list hs
  rw [Vals.ref1 r]
  obtain ⟨h1, h2⟩ := toPys_enc hp
  subst h1
  have est := std_of hr rv
  refine sorted_data (enc := encD) hl.isList est (std_reads I e h2 est) (okSort_alike ok) (okSort_kind ok) (big_line hz) (fun b hb => ?_) fun out ho hst => ?_
  · have := okSort_depth ok (List.mem_map.mpr ⟨b, hb, rfl⟩)
    omega
  · obtain ⟨ys, hy1, hy2⟩ := of_std hst
    obtain ⟨ep, he'⟩ := sortedAll_at s.heap its (List.toArray out)
    refine ⟨.ref (s.heap.objs.size + 1), upd H (s.heap.objs.size + 1) (.lst ys), I.laid (t' := s.toks) (fun b u q => sortedAll_old q) (Nat.le_succ _) ⟨?_, out, ep, hy2, he'⟩, rfl, q _ ys (I.hok.fresh (Nat.le_succ _)) hy1⟩
    rw [hy2.length, ho]
    exact big_line hz
def sortD (ds : List D) : Option W := (toPys ds).bind fun ps => if okSort ps = true ∧ ds.length ≤ big then some (1, .lst (ds.mergeSort leD)) else none
def gSorted : W → Option W := fun u => (listD u).bind sortD
theorem g_sorted : Op1 K (fun x H Q => rSortedG K [x] H Q) gSorted := by
  intro G H u x Fu w e ru hw
  obtain ⟨ds, hd, hw⟩ := Option.bind_eq_some_iff.mp hw
  obtain ⟨ps, hp, hw⟩ := Option.bind_eq_some_iff.mp hw
  split at hw
  · rename_i ok
    cases hw
    obtain ⟨a, xs, rfl, h1, h2⟩ := list_rep e hd ru
    refine fun Q q => ⟨G, ds, ps, a, xs, rfl, e, h1, h2, hp, ok.1, ok.2, fun p ys hp' hy => ?_⟩
    have g := Grow.newO (o := .lst ys) e hp' trivial
    exact q _ _ _ [p] g ⟨p, ys, [], rfl, upd_same, rfl, ROs.of_F hy⟩
  · cases hw
theorem e_sorted {p : Pos} (hu : X.A.units + 64 < cLine) (hg : Gl X "sorted") (hm : X.mg "sorted" = none) (ha : OkE X a A) (hs : starEach (a :: []) X.env = (false, eval a X.env) :: starEach [] X.env := by rfl) : OkE X (.Call (.Name "sorted" p) [a] [] pos) (pCall (on1 gSorted) (aCons A aNil)) :=
  e_bi (cr_sortedG hu) (opN_1 g_sorted) hg hm (by rfl) (a_cons ha a_nil hs) (hs := hs)
/-! ### sorted(d) -/
/-- the keys of a dict, as they lie -/
theorem kdlR {prog : Program} {w : World} {d : Addr} {o : Obj} {es : Array DictEntry} {ep : Nat} (lo : (d == sysModules) = false) (hc : o.ExactDict) (hd : o.data = .dict es ep) :
    KdlSrc prog w "dict" d d es.size (fun i v => ∃ en, es[i]? = some en ∧ v = en.key) (fun h => h.get? d = some o) where
  type := fun s h => ⟨o, h, hc.1⟩
  there := fun h e => ⟨Heap.lt_size e, Heap.lt_size e⟩
  keep := fun h h' e k => k d (.inl rfl) o e
  notList := by decide
  notTuple := by decide
  hint := fun A E s Q h hq => kdl_hint_dict ⟨o, h, hc.1⟩ hq
  iter := fun A s hh h => by
    refine ⟨_, fun i hp => hp.IsKeyIter s.heap.objs.size d i es.size ep ∧ hp.get? d = some o, fun E Q hq => iter_keys lo h hc hd hq, ?_, ⟨⟨_, Heap.get?_push_size _ rfl, rfl, rfl⟩, Heap.get?_push_of_some _ h⟩⟩
    have hne : d ≠ s.heap.objs.size := Nat.ne_of_lt (Heap.lt_size h)
    exact
      { sub := fun b hb => by simp at hb; simp [hb]
        frame := fun i h h' st k => ⟨st.1.at fun oi e => k _ (by simp) oi e, k d (by simp) o st.2⟩
        item := fun i s' Q E hi st hQ => by
          have hen : es[i]? = some es[i] := Array.getElem?_eq_getElem hi
          refine next_key_item st.1 st.2 hd rfl hen fun h' st' sb => ?_
          exact hQ _ h' s'.toks ⟨_, hen, rfl⟩ ⟨st', (sb.2 d hne).trans st.2⟩ fun b ob hb e => (sb.2 b (fun z => hb (by simp [z]))).trans e
        done := fun s' Q E st hQ => next_key_end hh st.1 st.2 hd rfl (Nat.le_refl _) fun h' eb => hQ h' s'.toks fun b ob hb e => eb b ob (fun z => hb (by simp [z])) e
        self := fun i s' Q E st hQ => wpAny_pyIter_keyiter st.1 hQ }
theorem pairs_key {κ : Type} [DecidableEq κ] {P : Program} {w : World} {knd : KeyKind P w κ} : ∀ {es : List DictEntry} {vs : List (κ × Value)}, Pairs knd es vs → ∀ {i : Nat} {k : κ} {u : Value}, vs[i]? = some (k, u) → ∃ en, es[i]? = some en ∧ knd.is k en.key = true ∧ en.val = u
  | _, _, .nil, i, k, u, h => by simp at h
  | _, _, .cons (e := en) h1 h2 t, 0, k, u, h => by
    simp at h
    subst h
    exact ⟨en, rfl, h1, h2⟩
  | _, _, .cons h1 h2 t, i + 1, k, u, h => by
    obtain ⟨en, q1, q2⟩ := pairs_key t (by simpa using h)
    exact ⟨en, by simpa using q1, q2⟩
/-- a key as it lies -/
def KeyAt (H : Hp) : Bool → List Key → Value → Prop
  | false, k, u => RelV (kV (k.headD (.inl 0))) u
  | true, k, u => ∃ q, u = .ref q ∧ H q = some (.tup (k.map kV))
/-- what lies at a dict -/
theorem dict_raw {pins : List (Addr × Obj)} {s : Shared} {d : Addr} {t : Bool} {xs : List (List Key × V)} (I : Inv X pins σ H s) (h : Rd H d (hoD t xs)) (ok : keysOk t xs) :
    (d == sysModules) = false ∧ ∃ o es ep, s.heap.get? d = some o ∧ o.ExactDict ∧ o.data = .dict es ep ∧ es.size = xs.length ∧ ∀ (i : Nat) (k : List Key) (v : V), xs[i]? = some (k, v) → ∃ en, es[i]? = some en ∧
      KeyAt H t k en.key := by
  cases t with
  | true =>
    have key : ∃ u, ObjOk X.prog X.w H s.heap d u ∧ u = .dT xs := ⟨_, h.ok I.hok, rfl⟩
    obtain ⟨u, hu, rfl⟩ := key
    obtain ⟨z, hs, ys, pr, o, es, ep, ho, hx, hdt, he, _⟩ := hu
    refine ⟨hs, o, es, ep, ho, hx, hdt, ?_, fun i k v e => ?_⟩
    · have l1 : es.size = ys.length := size_of_entries he
      have l2 : xs.length = ys.length := Paired.length pr
      omega
    · obtain ⟨b, hb, e1, e2, _⟩ := paired_get pr e
      have q := entry_at he i
      rw [hb] at q
      exact ⟨_, q, b.2.1, rfl, e2⟩
  | false =>
    obtain ⟨z, hs, vs, kv, o, es, ep, ho, hx, hdt, hk⟩ := (show ObjOk X.prog X.w H s.heap d (.dK _) from h.ok I.hok)
    obtain ⟨hk1, hp, hn⟩ := hk
    have l1 := hp.length
    have l2 : (xs.map fun p => (p.1.headD (.inl 0), p.2)).length = vs.length := Paired.length kv
    rw [Array.length_toList] at l1
    rw [List.length_map] at l2
    refine ⟨hs, o, es, ep, ho, hx, hdt, by omega, fun i k v e => ?_⟩
    have e' : (xs.map fun p => (p.1.headD (.inl 0), p.2))[i]? = some (k.headD (.inl 0), v) := by rw [List.getElem?_map, e]; rfl
    obtain ⟨u, hu, _⟩ := kv_get kv e'
    obtain ⟨en, hen, h1, h2⟩ := pairs_key hp hu
    exact ⟨en, by rw [← Array.getElem?_toList]; exact hen, relV_key h1⟩
def pk : Key → PyData
  | .inl i => .int i
  | .inr s => .str s
theorem toPy_kD (k : Key) : toPy (kD k) = some (pk k) := by cases k <;> rfl
theorem toPys_kD : ∀ ks : List Key, toPys (ks.map kD) = some (ks.map pk)
  | [] => rfl
  | k :: ks => by
    show (toPy (kD k)).bind _ = _
    rw [toPy_kD]
    show (toPys (ks.map kD)).map _ = _
    rw [toPys_kD ks]; rfl
theorem enc_key (t : Bool) (ks : List Key) : encD (keyDat t ks) = match t with | false => pk (ks.headD (.inl 0)) | true => .tuple (ks.map pk) := by
  cases t with
  | false => exact encD_of (toPy_kD _)
  | true => exact encD_of (by show (toPys (ks.map kD)).map _ = _; rw [toPys_kD]; rfl)
theorem reads_k {h : Heap} {k : Key} {u : Value} (r : RelV (kV k) u) : Reads h u (pk k) [] := by
  cases k with
  | inl i => obtain ⟨t, rfl⟩ := r; exact .int i t
  | inr s => obtain ⟨t, rfl⟩ := r; exact .str s t
theorem reads_ks {h : Heap} : ∀ {ks : List Key} {us : List Value}, Vals (ks.map kV) us → ReadsAll h us (ks.map pk) []
  | [], _, .nil => .nil
  | k :: ks, _, .cons r t => ReadsAll.cons (as := []) (bs := []) (reads_k r) (reads_ks t)
theorem reads_key {pins : List (Addr × Obj)} {s : Shared} {h' : Heap} {t : Bool} {ks : List Key} {u : Value} (I : Inv X pins σ H s) (kp : ∀ b o, s.heap.get? b = some o → h'.get? b = some o) (h : KeyAt H t ks u) : Reads h' u (encD (keyDat t ks)) [] := by
  rw [enc_key]
  cases t with
  | false => exact reads_k h
  | true =>
    obtain ⟨q, rfl, hq⟩ := h
    obtain ⟨z, its, rv, o, ho, hc, n, hd⟩ := (show ObjOk X.prog X.w H s.heap q (.tup _) from I.hok q _ hq)
    exact .tuple (kp _ _ ho) hc hd (reads_ks rv)
theorem each_get {α β : Type} {R : α → β → Prop} : ∀ {us : List α} {ds : List β}, us.length = ds.length → (∀ (i : Nat) (u : α) (d : β), us[i]? = some u → ds[i]? = some d → R u d) → EachIs R us ds
  | [], [], _, _ => .nil
  | u :: us, d :: ds, hl, h => .cons (h 0 u d rfl rfl) (each_get (by simpa using hl) fun i u' d' h1 h2 => h (i + 1) u' d' (by simpa using h1) (by simpa using h2))
  | [], _ :: _, hl, _ => by simp at hl
  | _ :: _, [], hl, _ => by simp at hl
def rSortedDG (K : PySem.W.Frag) : List V → Hp → VK → Prop := fun vs H Q => ∃ (G : Hp) (t : Bool) (kvs : List (List Key × D)) (ps : List PyData) (a : Addr) (xs : List (List Key × V)), vs = [V.ref a] ∧ Same G H ∧ (∀ b o, H b = some o → ¬ isOwn o → G b = some o) ∧ Rd H a (hoD t xs) ∧ keysOk t xs ∧ RepFk K G kvs xs ∧
  toPys (kvs.map fun p => keyDat t p.1) = some ps ∧ okSort ps = true ∧ kvs.length ≤ big ∧ ∀ p ys, H p = none → RepFs K G ((kvs.map fun p => keyDat t p.1).mergeSort leD) ys → Q (.ref p) (upd H p (.lst ys))
set_option maxHeartbeats 1000000 in
theorem cr_sortedDG (hcalm : X.calm = true) (hu : X.A.units + 64 < cLine) : CallR X (.builtin "sorted") (rSortedDG X.K) := by
  intro pins s σ H vs us Q I r h
  obtain ⟨G, t, kvs, ps, a, xs, rfl, e, tu, hr, ok, rk, hp, oks, hz, q⟩ := h
  rw [Vals.ref1 r]
  obtain ⟨lo, o, es, ep, ho, hx, hdt, hsz, ent⟩ := dict_raw I hr ok
  have hl : xs.length = kvs.length := rk.len
  refine Calls.call_function_entry PyProof.Rows.kind_sorted PyProof.Rows.plain_sorted PyProof.Rows.entry_sorted (PyProof.Rows.args_sorted1 _) ?_
  unfold Builtin.«sorted»
  refine wpAny_bind (m := checkCount "sorted" 1 1 _) (wpAny_pure ?_)
  refine wpAny_bind (PySem.W.kdu_collect (A := X.A.in1) (kdlR lo hx hdt) (I.ok.hd hcalm) ho (by rw [hsz, hl]; exact big_line hz) fun h' tk acc hk hacc => ?_)
  have I1 : Inv X pins σ H { s with heap := h', toks := tk } := I.kept hk
  have hal : acc.toList.length = kvs.length := by rw [Array.length_toList, hacc.1, hsz, hl]
  refine wpAny_bind (wpAny_newList ?_ (by rw [hal]; exact big_line hz))
  have hoL : (h'.push (seqObj "list" acc.toList.toArray 0)).get? h'.objs.size = some (seqObj "list" acc.toList.toArray 0) := Heap.get?_push_size _ rfl
  show wpAny _ _ _ _ _ { s with heap := h'.push (seqObj "list" acc.toList.toArray 0), toks := tk }
  obtain ⟨h1, h2⟩ := toPys_enc hp
  subst h1
  have key : ∀ (i : Nat) (u : Value) (d : D), acc.toList[i]? = some u → (kvs.map fun p => keyDat t p.1)[i]? = some d → ∃ ks : List Key, d = keyDat t ks ∧ KeyAt H t ks u := fun i u d hu hd => by
    rw [List.getElem?_map] at hd
    obtain ⟨⟨ks, d'⟩, hkv, rfl⟩ := Option.map_eq_some_iff.mp hd
    have hlt : i < xs.length := by rw [hl]; exact (List.getElem?_eq_some_iff.mp hkv).1
    obtain ⟨⟨ks', v⟩, hxi⟩ : ∃ p, xs[i]? = some p := ⟨xs[i], List.getElem?_eq_getElem hlt⟩
    obtain ⟨d2, hd2⟩ := rk.key hxi
    rw [hkv] at hd2
    cases hd2
    obtain ⟨en, hen, hkey⟩ := ent i ks v hxi
    obtain ⟨en', hen', hu'⟩ := hacc.2 i u (by rw [← Array.getElem?_toList]; exact hu)
    rw [hen] at hen'
    cases hen'
    rw [hu']
    exact ⟨ks, rfl, hkey⟩
  have hlen : acc.toList.length = (kvs.map fun p => keyDat t p.1).length := by rw [List.length_map]; exact hal
  have est : EachIs (Std X.K G) acc.toList (kvs.map fun p => keyDat t p.1) := each_get hlen fun i u d hu hd => by
    obtain ⟨ks, rfl, hkey⟩ := key i u d hu hd
    cases t with
    | false => exact ⟨_, kD_rep _, hkey⟩
    | true =>
      obtain ⟨q, rfl, hq⟩ := hkey
      exact ⟨.ref q, ⟨q, _, rfl, tu _ _ hq (fun z => z), kDs_rep ks⟩, rfl⟩
  have erd : EachIs (fun v b => ∃ as, Reads (h'.push (seqObj "list" acc.toList.toArray 0)) v (encD b) as ∧ h'.objs.size ∉ as) acc.toList (kvs.map fun p => keyDat t p.1) := each_get hlen fun i u d hu hd => by
    obtain ⟨ks, rfl, hkey⟩ := key i u d hu hd
    exact ⟨[], reads_key I1 (fun b o q => Heap.get?_push_of_some _ q) hkey, by simp⟩
  refine wpAny_bind (wpAny_holding (list_sort_data (s := { s with heap := h'.push (seqObj "list" acc.toList.toArray 0), toks := tk }) (enc := encD) hoL est erd (okSort_alike oks) (okSort_kind oks) (by rw [← hlen, hal]; exact big_line hz) (fun b hb => ?_) fun out ho' hst => ?_))
  · have := okSort_depth oks (List.mem_map.mpr ⟨b, hb, rfl⟩)
    have hu1 : X.A.in1.units ≤ X.A.units + 1 := by first | exact Nat.le_refl _ | (show _ ≤ _; simp [Around.in1, Around.units])
    omega
  · obtain ⟨ys, hy1, hy2⟩ := of_std hst
    obtain ⟨e', he'⟩ := PyProof.Rows.sortedHeap_at (vs := acc.toList) (out := List.toArray out) hoL
    refine wpAny_pure ⟨_, rfl, .ref h'.objs.size, upd H h'.objs.size (.lst ys), I1.laid (t' := tk) (fun b u e => ?_) (Nat.le_refl _) ⟨?_, out, e', hy2, he'⟩, rfl, q _ ys (I1.hok.fresh (Nat.le_refl _)) hy1⟩
    · have hb : b < h'.objs.size := Heap.lt_size e
      rw [PyProof.Rows.sortedHeap_old (Nat.ne_of_lt hb) (by rw [size_push']; exact Nat.lt_succ_of_lt hb)]
      exact Heap.get?_push_of_some _ e
    · rw [hy2.length, ho', List.length_map]
      exact big_line hz
end
end Pv
set_option Elab.async false
set_option linter.all false
set_option maxRecDepth 100000
/-! P15: tuples whose object is known, their methods; a dict of the module; tuple * int; sorted(d) -/
namespace Pv
open PySem PySem.Spec PyProof.Rows L2
section
variable {X : Cx} {K : PySem.W.Frag} {G0 G G1 G' H H' : Hp} {σ : L2.St} {ρ : Env} {ws : List (V × Arg)} {F F1 F2 : List Addr} {e a b c tg : Expr} {es : List Expr} {pos : Pos} {A B C : Fe}
/-! ### (..) and tuple(x), the object known -/
def tTupF (t : TA) : TE := fun σ H Q => t σ H fun xs H1 => xs.length ≤ sizeLine ∧ ∀ p od, H1 p = none → FT od → Q (.ref p) (upd H1 p (.frz od (.tup xs)))
theorem pe_tupF {x1} {t : TA} (h : PA X es t) : PE X (.Tuple es x1 pos) (tTupF t) := by
  refine ⟨fun pins s σ H Q I hq => ?_⟩
  refine wpAny_Tuple_spliced (thn (h.run pos pins s σ H _ I hq) fun us s1 ⟨xs, H1, I1, r, z, q⟩ => ⟨by rw [← r.length]; exact z, ?_⟩)
  have hf : H1 s1.heap.objs.size = none := I1.hok.fresh (Nat.le_refl _)
  refine ⟨.ref s1.heap.objs.size, upd H1 s1.heap.objs.size (.frz { cls := .type "tuple", data := .seq us.toArray } (.tup xs)), I1.laid (t' := s1.toks) (fun b u e => Heap.get?_push_of_some _ e) (Nat.le_refl _) ?_, rfl, q _ _ hf ⟨rfl, rfl⟩⟩
  exact ⟨Heap.get?_push_size _ rfl, z, us, r, ⟨_, Heap.get?_push_size _ rfl, rfl, _, rfl⟩⟩
theorem KTup.new {p : Addr} {od : Obj} {xs : List V} (h : FT od) : KTup K (upd G p (.frz od (.tup xs))) p xs := .inr ⟨od, h, upd_same⟩
def pKTup (A : Fa) : Fe := fun ρ => (A ρ).bind fun as => if as.length ≤ 1000 then (ownAll as).map fun ds => .v 0 (.ktp ds) else none
theorem e_ktup {B : Fa} {x1} (h : OkA X es B) : OkE X (.Tuple es x1 pos) (pKTup B) := PE.imp (pe_tupF h) fun σ H Q ⟨G0, ρ, ws, a, I, hf, q⟩ => by
  obtain ⟨as, has, hf⟩ := Option.bind_eq_some_iff.mp hf
  split at hf
  · rename_i hz
    obtain ⟨ds, hd, rfl⟩ := Option.map_eq_some_iff.mp hf
    refine ⟨G0, ρ, ws, as, I, has, fun vs H1 hl I1 => ⟨by rw [hl]; exact Nat.le_trans hz (by decide), fun p od hp ho => ?_⟩⟩
    obtain ⟨G, F1, F2, J⟩ := I1
    obtain ⟨F3, J⟩ := Si.perm ((List.reverse_perm _).append_right ws) J
    obtain ⟨G1, F4, J1, e1, r1⟩ := Si.freezeN as vs ds hl hd J
    have g := Grow.newF (o := .frz od (.tup vs)) J1.ex hp
    exact q _ _ (J1.push (k := 0) (d := .ktp ds) g ⟨⟨p, vs, rfl, KTup.new ho, RepFs.mono g.gg _ _ r1⟩, rfl⟩).SI
  · cases hf
theorem call_tuple_ofF : CallR X (.type "tuple") (fun xs H Q => ∃ p ys, xs = [.ref p] ∧ SqL X.K H p ys ∧ ∀ l od, H l = none → FT od → Q (.ref l) (upd H l (.frz od (.tup ys)))) := by
  intro pins s σ H xs us Q I r h
  obtain ⟨p, ys, rfl, hq, q⟩ := h
  obtain ⟨u, rfl, rx⟩ := vals1 r
  cases rx
  obtain ⟨its, r', pl, hz⟩ := I.list hq
  have hlen := r'.length
  refine call_tuple_list pl.isList (fun h' kp => ?_) (by simp only [List.size_toArray] <;> omega)
  have I1 : Inv X pins σ H { s with heap := h' } := I.kept (t' := s.toks) kp
  have I2 : Inv X pins σ (upd H h'.objs.size (.frz { cls := .type "tuple", data := .seq its.toArray } (.tup ys))) { s with heap := h'.push { cls := .type "tuple", data := .seq its.toArray } } :=
    I1.laid (t' := s.toks) (fun b o e => Heap.get?_push_of_some _ e) (Nat.le_refl _) ⟨Heap.get?_push_size _ rfl, hz, its, r', IsTup.new _ _⟩
  exact ⟨.ref h'.objs.size, _, I2, rfl, q _ _ (I1.hok.fresh (Nat.le_refl _)) ⟨rfl, rfl⟩⟩
def gKTupOf : W → Option W := fun u => (listD u).map fun ds => (0, .ktp ds)
theorem g_ktupOf : Op1 K (fun x H Q => ∃ p ys, [x] = [.ref p] ∧ SqL K H p ys ∧ ∀ l od, H l = none → FT od → Q (.ref l) (upd H l (.frz od (.tup ys)))) gKTupOf := by
  intro G H u x Fu w e ru hw
  obtain ⟨ds, hd, rfl⟩ := Option.map_eq_some_iff.mp hw
  obtain ⟨a, xs, rfl, h1, h2⟩ := list_rep e hd ru
  refine fun Q q => ⟨a, xs, rfl, h1, fun l od hl ho => ?_⟩
  have g := Grow.newF (o := .frz od (.tup xs)) e hl
  exact q _ _ _ [] g ⟨⟨l, xs, rfl, KTup.new ho, RepFs.mono g.gg _ _ h2⟩, rfl⟩
theorem e_ktupOf {p : Pos} (hg : Gl X "tuple") (hm : X.mg "tuple" = none) (ha : OkE X a A) (hs : starEach (a :: []) X.env = (false, eval a X.env) :: starEach [] X.env := by rfl) : OkE X (.Call (.Name "tuple" p) [a] [] pos) (pCall (on1 gKTupOf) (aCons A aNil)) :=
  e_ty call_tuple_ofF (opN_1 g_ktupOf) hg hm (by rfl) (a_cons ha a_nil hs) (hs := hs)
/-! ### its methods -/
def RecvT (K : PySem.W.Frag) (x : V) (H : Hp) : Prop := ∃ p xs, x = .ref p ∧ KTup K H p xs
theorem recvT_is {pins : List (Addr × Obj)} {s : Shared} {x : V} {v : Value} (I : Inv X pins σ H s) (r : RelV x v) (h : RecvT X.K x H) : s.TypeIs v "tuple" ∧ ∀ a, v = .ref a → ∃ ob, s.heap.get? a = some ob ∧ ob.dict = none := by
  obtain ⟨p, xs, rfl, h⟩ := h
  cases r
  rcases h with ⟨o, its, n, h1, h2, h3, _⟩ | ⟨od, h1, h2⟩
  · exact ⟨⟨o, I.kIn p o h1, h2⟩, fun a e => by cases e; exact ⟨o, I.kIn p o h1, h3⟩⟩
  · obtain ⟨q, _⟩ := (show ObjOk X.prog X.w H s.heap p (.frz od (.tup xs)) from I.hok p _ h2)
    exact ⟨⟨od, q, h1.1⟩, fun a e => by cases e; exact ⟨od, q, h1.2⟩⟩
def tBMT (K : PySem.W.Frag) (r : V → List V → Hp → VK → Prop) (to : TE) (t : TA) : TE := fun σ H Q => to σ H fun x H1 => RecvT K x H1 ∧ t σ H1 fun xs H2 => r x xs H2 Q
theorem pe_bmT {o : Expr} {to : TE} {t : TA} {name : Str} {apos cpos : Pos} {id : String} {r : V → List V → Hp → VK → Prop} (slot : Slot "tuple" name id) (hty : typeOf (.builtin id) = pure (.type "method_descriptor")) (hm : MtR X id r) (ho : PE X o to) (ha : PA X (e :: es) t)
    (hbase : attributeBase o name X.env (eval o X.env) = eval o X.env := by rfl)
    (hfew : ((backTo cpos (starEach (e :: es) X.env)).all (fun x => !x.1) && (backToKw cpos (keywordEach [] X.env)).all (fun x => x.1.isSome)
      && decide ((e :: es).length + ([] : List Keyword).length + (if ([] : List Keyword).isEmpty then 0 else 1) < 30)) = true := by rfl)
    (hline : (apos.endLine == cpos.line) = true := by rfl) (hs : starEach (e :: es) X.env = (false, eval e X.env) :: starEach es X.env := by rfl) (hplain : (backTo cpos (starEach es X.env)).any (·.1) = false := by rfl) :
    PE X (.Call (.Attribute o name apos) (e :: es) [] cpos) (tBMT X.K r to t) := by
  refine ⟨fun pins s σ H Q I h => ?_⟩
  refine wpAny_Call_method_late hbase hfew hline rfl (thn (ho.run pins s σ H _ I h) fun v s1 ⟨x, H1, I1, r1, ty, q1⟩ => ?_)
  obtain ⟨h1, h2⟩ := recvT_is I1 r1 ty
  refine ⟨"tuple", id, PySem.F.plainAttrs_tuple, slot, hty, h1, h2, ?_⟩
  have hA := ha.run cpos pins s1 σ H1 _ I1 q1
  rw [hs] at hA ⊢
  refine Calls.callWith_builtin (by show (false || (backTo cpos (starEach es X.env)).any (·.1)) = false; rw [hplain] <;> rfl) (Calls.evalArgs_plain ?_)
  exact thn hA fun us s2 ⟨vs, H2, I2, r2, q2⟩ => hm pins s2 σ H2 x vs v us Q I2 r1 r2 q2
theorem bm1_imp {r : V → List V → Hp → VK → Prop} {g : W → W → Option W} (hg : Op2 K (fun x y H Q => r x [y] H Q) g) (hr : ∀ G H u v x F w, Same G H → RO K G H u.1 u.2 x F → g u v = some w → RecvT K x H) (σ : L2.St) (H : Hp) (Q : VK) (h : tE K (pOp2 g A B) σ H Q) : tBMT K r (tE K A) (tA K (aCons B aNil)) σ H Q := by
  obtain ⟨G0, ρ, ws, a, I, hf, q⟩ := h
  obtain ⟨u, hu, hf⟩ := Option.bind_eq_some_iff.mp hf
  obtain ⟨v, hv, hf⟩ := Option.bind_eq_some_iff.mp hf
  obtain ⟨w, hw, rfl⟩ := Option.map_eq_some_iff.mp hf
  obtain ⟨a1, ha, hg1⟩ := val_some hu
  obtain ⟨a2, hb, hg2⟩ := val_some hv
  refine ⟨G0, ρ, ws, a1, I, ha, fun x H1 I1 => ⟨?_, G0, ρ, (x, a1) :: ws, [a2], I1, by simp [aCons, aNil, hb], fun vs H2 hl I2 => ?_⟩⟩
  · obtain ⟨G, F1, F2, J⟩ := I1
    obtain ⟨Fx, rx⟩ := J.top hg1
    exact hr G H1 u v x Fx w J.ex rx hw
  · match vs, hl, I2 with
    | [y], _, I2 =>
      obtain ⟨G, F1, F2, J⟩ := I2
      obtain ⟨Fy, ry⟩ := Si.top (ws := (x, a1) :: ws) J hg2
      obtain ⟨Fx, rx⟩ := Si.next (ws := ws) J hg1
      refine hg G H2 u v x y Fx Fy w J.ex rx ry hw Q fun z H' G' F' gr rv => ?_
      obtain ⟨F2', _, J'⟩ := Si.drop (ws := (x, a1) :: ws) J
      obtain ⟨F3', _, J''⟩ := Si.drop (ws := ws) J'
      exact q z H' (J''.push gr rv).SI
def rTIndexD (K : PySem.W.Frag) : V → List V → Hp → VK → Prop := fun x xs H Q => ∃ (a : Addr) (y : V) (d : PyData) (ds : List PyData) (j : Nat) (z : PyData), x = V.ref a ∧ xs = [y] ∧ Dp K H (V.ref a) (.tuple ds) ∧ Dp K H y d ∧
  SeqAt.shaped (.tuple ds) = true ∧ SeqAt.shaped d = true ∧ ds[j]? = some z ∧ PyData.eqv z d = true ∧ (∀ (m : Nat) (z' : PyData), m < j → ds[m]? = some z' → PyData.eqv z' d = false) ∧ Q (.int (j : Nat)) H
theorem mt_tindexD (hu : X.A.units + 65 < cLine) : MtR X "tuple.index" (rTIndexD X.K) := by
  intro pins s σ H x xs v us Q I rx rxs h
  obtain ⟨a, y, d, ds, j, z, rfl, rfl, hl, hy, sl, sd, hz, hzj, hno, q⟩ := h
  cases rx
  cases rxs with
  | cons ry rt =>
    rename_i uy ut
    cases rt
    obtain ⟨bs, r1⟩ := Dp.reads I d y uy hy ry
    have hxs : PyData.canLayAll0 ds = true := SeqAt.canLay_of_shaped sl
    have hroom : X.A.units + 1 + min (PyData.depthAll ds) d.depth < cLine := room_in_shaped sd hu
    cases hl with
    | tup hs ha =>
      obtain ⟨its, rv, ⟨⟨cls, dd, data, sls⟩, ho, hc, n, hdt⟩, hlen⟩ := I.tuple hs
      simp only at hc hdt
      subst hc hdt
      obtain ⟨as, h4⟩ := Dp.readsAll I ds _ its ha rv
      have hn : its.length = ds.length := SeqAt.ReadsAll.length ds its as h4
      have hmap : its.map (SeqAt.readOf s.heap) = ds := SeqAt.readsAll_map ds its as hxs h4
      have hvl := rv.length
      have hsl := sizeLine_eq
      obtain ⟨hjd, _⟩ := List.getElem?_eq_some_iff.mp hz
      have hjl : j < its.length := by omega
      have hj : j < its.toArray.size := by simpa using hjl
      have at_ : ∀ (m : Nat) (hm : m < its.toArray.size) (z' : PyData), ds[m]? = some z' → SeqAt.readOf s.heap its.toArray[m] = z' := by
        intro m hm z' hz'
        have hml : m < its.length := by simpa using hm
        rw [← hmap, List.getElem?_map, List.getElem?_eq_getElem hml] at hz'
        have e1 : SeqAt.readOf s.heap its[m] = z' := Option.some.inj (show some (SeqAt.readOf s.heap its[m]) = some z' from hz')
        simpa using e1
      refine call_meets PySem.F.slot_tuple_index ⟨_, ho, rfl⟩ PySem.F.entry_tuple_index (PySem.F.args_tuple_index_2 _ _)
        (TI.tuple_indexAt a its.toArray n dd sls uy (fun u => PyData.eqv (SeqAt.readOf s.heap u) d) j hj ?_ ?_) ⟨ho, SeqAt.items_eqAt (vs := its.toArray) (show ReadsAll s.heap its.toArray.toList ds as from h4) r1 hxs (SeqAt.canLay_of_shaped sd) hroom, ?_⟩
      · show PyData.eqv (SeqAt.readOf s.heap its.toArray[j]) d = true
        rw [at_ j hj z hz]
        exact hzj
      · intro m hm hmj
        have hmd : m < ds.length := by omega
        have hz' : ds[m]? = some ds[m] := List.getElem?_eq_getElem hmd
        show PyData.eqv (SeqAt.readOf s.heap its.toArray[m]) d = false
        rw [at_ m hm _ hz']
        exact hno m _ hmj hz'
      · exact ⟨.int (j : Nat), H, I.tok _, ⟨_, rfl⟩, q⟩
def idxP (d : PyData) : List PyData → Nat → Option Nat
  | [], _ => none
  | z :: zs, i => if PyData.eqv z d = true then some i else idxP d zs (i + 1)
theorem idxP_spec {d : PyData} : ∀ (zs : List PyData) (i j : Nat), idxP d zs i = some j → ∃ z, i ≤ j ∧ zs[j - i]? = some z ∧ PyData.eqv z d = true ∧ ∀ (m : Nat) (z' : PyData), i + m < j → zs[m]? = some z' → PyData.eqv z' d = false
  | [], i, j, h => by cases h
  | z :: zs, i, j, h => by
    unfold idxP at h
    split at h
    · rename_i he
      cases h
      exact ⟨z, Nat.le_refl _, by simp, he, fun m z' hm _ => absurd hm (by omega)⟩
    · rename_i he
      obtain ⟨y, h1, h2, h3, h4⟩ := idxP_spec zs (i + 1) j h
      refine ⟨y, by omega, ?_, h3, fun m z' hm hz => ?_⟩
      · have : j - i = (j - (i + 1)) + 1 := by omega
        rw [this, List.getElem?_cons_succ]; exact h2
      · cases m with
        | zero => simp at hz; subst hz; simpa using he
        | succ m => exact h4 m z' (by omega) (by simpa using hz)
def gTIndex : W → W → Option W
  | (_, .ktp ds), (j, d) => if eqOk (j, d) = true then (toPys ds).bind fun ps => (toPy d).bind fun p => if SeqAt.shaped (.tuple ps) = true ∧ SeqAt.shaped p = true then (idxP p ps 0).map fun n => (0, .int (n : Nat)) else none else none
  | _, _ => none
theorem g_tindex : Op2 K (fun x y H Q => rTIndexD K x [y] H Q) gTIndex := by
  intro G H u v x y Fu Fv w e ru rv hw
  unfold gTIndex at hw
  split at hw
  · split at hw
    · rename_i hk
      obtain ⟨ps, hps, hw⟩ := Option.bind_eq_some_iff.mp hw
      obtain ⟨p, hp, hw⟩ := Option.bind_eq_some_iff.mp hw
      split at hw
      · rename_i ok
        obtain ⟨n, hn, rfl⟩ := Option.map_eq_some_iff.mp hw
        obtain ⟨a, xs, rfl, h1, h2⟩ := ru.ktp
        obtain ⟨z, _, hz, he, hno⟩ := idxP_spec ps 0 n hn
        exact Res.pure (v := .int _) e rfl fun Q q => ⟨a, y, p, ps, n, z, rfl, rfl, .tup (same_t e h1.sq) (dps_of e _ ps xs hps h2), dp_ro e hk hp rv, ok.1, ok.2, by simpa using hz, he, fun m z' hm hz' => hno m z' (by omega) hz', q⟩
      · cases hw
    · cases hw
  · cases hw
theorem e_tindex {apos cpos : Pos} (hu : X.A.units + 65 < cLine) (ha : OkE X a A) (hb : OkE X b B) (hfew : ((backTo cpos (starEach (b :: []) X.env)).all (fun x => !x.1) && (backToKw cpos (keywordEach [] X.env)).all (fun x => x.1.isSome)
      && decide ((b :: []).length + ([] : List Keyword).length + (if ([] : List Keyword).isEmpty then 0 else 1) < 30)) = true := by rfl) (hbase : attributeBase a "index" X.env (eval a X.env) = eval a X.env := by rfl)
    (hline : (apos.endLine == cpos.line) = true := by rfl) (hs : starEach (b :: []) X.env = (false, eval b X.env) :: starEach [] X.env := by rfl) : OkE X (.Call (.Attribute a "index" apos) [b] [] cpos) (pOp2 gTIndex A B) :=
  PE.imp (pe_bmT PySem.F.slot_tuple_index PySem.F.type_tuple_index (mt_tindexD hu) ha (a_cons hb a_nil hs) hbase hfew hline hs (by rfl)) (bm1_imp g_tindex fun G H u v x F w e ru hw => by
    unfold gTIndex at hw
    split at hw
    · obtain ⟨a, xs, rfl, h1, h2⟩ := ru.ktp
      exact ⟨a, xs, rfl, h1.mono e⟩
    · cases hw)
/-! ### tuple * int -/
theorem tuple_mul1 (l : Addr) (items : Array Value) (n : Nat) (dd : Option Addr) (sl : Array (Option Value)) (u : Tok) :
    Meets (Builtin.«tuple.__mul__» ⟨[.ref l, .int 1 u], []⟩) (fun _ R s => s.heap.get? l = some { cls := .type "tuple", dict := dd, data := .seq items n, slots := sl } ∧ R (.ok (.ret (Value.ref l))) s) :=
  .of_wp fun prog w A R s h => by
    obtain ⟨hp, g, d, tk, os⟩ := s
    obtain ⟨hl, h⟩ := h
    have f1 := AutoSeq1.idx_int
    wp_walk using wpAny_loadPart' hl
    repeat (first
      | (refine wpAny_ite_false (decide_eq_false (by decide)) ?_; wp_walk using wpAny_loadPart' hl)
      | (refine wpAny_ite_true (decide_eq_true (by simp)) ?_; wp_walk using wpAny_loadPart' hl))
    exact ⟨_, rfl, h⟩
theorem tuple_mul0 (l : Addr) (items : Array Value) (n : Nat) (dd : Option Addr) (sl : Array (Option Value)) (u : Tok) (c1 : (items.isEmpty || (0 : Int) == 1) = false) :
    Meets (Builtin.«tuple.__mul__» ⟨[.ref l, .int 0 u], []⟩) (fun _ R s => s.heap.get? l = some { cls := .type "tuple", dict := dd, data := .seq items n, slots := sl } ∧
      R (.ok (.ret (Value.ref s.heap.objs.size))) { s with heap := s.heap.push { cls := Value.type "tuple", data := Data.seq #[] }, toks := s.toks }) :=
  .of_wp fun prog w A R s h => by
    obtain ⟨hp, g, d, tk, os⟩ := s
    obtain ⟨hl, h⟩ := h
    have f1 := AutoSeq1.idx_int
    wp_walk using wpAny_loadPart' hl
    repeat (first
      | (refine wpAny_ite_false (decide_eq_false (by decide)) ?_; wp_walk using wpAny_loadPart' hl)
      | (refine wpAny_ite_false (decide_eq_false (by rw [c1]; exact Bool.false_ne_true)) ?_; wp_walk using wpAny_loadPart' hl)
      | (refine wpAny_ite_true (decide_eq_true (by simp)) ?_; wp_walk using wpAny_loadPart' hl))
    exact ⟨_, rfl, h⟩
def rRep01 (K : PySem.W.Frag) : R2 := fun x y H Q => ∃ l k xs, x = .ref l ∧ y = .int k ∧ SqT K H l xs ∧ ((k = 1 ∧ Q (.ref l) H) ∨ (k = 0 ∧ xs ≠ [] ∧ ∀ p, H p = none → Q (.ref p) (upd H p (.tup []))))
theorem op_rep01 : OpR X (binaryOp .Mult) (rRep01 X.K) := by
  intro pins s σ H x y v u Q I rx ry h
  obtain ⟨l, k, xs, rfl, rfl, hT, q⟩ := h
  cases rx
  obtain ⟨t, rfl⟩ := ry
  obtain ⟨its, r, ⟨⟨cls, dd, data, sl⟩, ho, hc, n, hd⟩, hs⟩ := I.tuple hT
  simp only at hc hd
  subst hc hd
  have hle : its.length = xs.length := r.length.symm
  refine wpAny_binaryOp_repeat_ref (T := "tuple") (U := "int") (by decide) ⟨_, ho, rfl⟩ (fun s' => typeIs_int s' k t) noFill_tuple_mul F.fills_int_mul F.slot_int_rmul repeat_tuple F.slot_int_index.lookup
    (call_meets F.slot_int_rmul (typeIs_int s k t) F.entry_int_rmul (F.args_int_rmul_2 _ _) (int_rmul_tuple k t l its.toArray n dd sl) ⟨ho, rfl, ⟨_, ho, rfl⟩, ?_⟩)
  rcases q with ⟨rfl, q⟩ | ⟨rfl, hne, q⟩
  · exact call_meets F.slot_tuple_mul ⟨_, ho, rfl⟩ F.entry_tuple_mul (F.args_tuple_mul_2 _ _) (tuple_mul1 l its.toArray n dd sl t) ⟨ho, .ref l, H, I, rfl, q⟩
  · have hi : its.toArray.isEmpty = false := by
      cases its with
      | nil => exact absurd (List.eq_nil_of_length_eq_zero hle.symm) hne
      | cons a b => rfl
    refine call_meets F.slot_tuple_mul ⟨_, ho, rfl⟩ F.entry_tuple_mul (F.args_tuple_mul_2 _ _) (tuple_mul0 l its.toArray n dd sl t (by rw [hi]; rfl)) ⟨ho, ?_⟩
    refine ⟨.ref s.heap.objs.size, _, I.laid (t' := s.toks) (o := .tup []) (fun b ob q => Heap.get?_push_of_some _ q) (Nat.le_refl _) ⟨Nat.zero_le _, [], .nil, IsTup.new _ _⟩, rfl, q _ (I.hok.fresh (Nat.le_refl _))⟩
def gMulT : W → W → Option W
  | (_, .tup ds), (_, .int k) => if k = 1 then some (0, .tup ds) else if k = 0 ∧ ds ≠ [] then some (0, .tup []) else none
  | _, _ => none
theorem g_mulT : Op2 K (rRep01 K) gMulT := by
  intro G H u v x y Fu Fv w e ru rv hw
  unfold gMulT at hw
  split at hw
  · obtain rfl := rv.int
    obtain ⟨a, xs, rfl, h1, h2⟩ := ru.tupE
    split at hw
    · rename_i hk
      cases hw
      exact Res.pure e ⟨a, xs, rfl, h1, h2⟩ fun Q q => ⟨a, _, xs, rfl, rfl, SqT.of (e _ _ h1), .inl ⟨hk, q⟩⟩
    · split at hw
      · rename_i hk
        cases hw
        refine Res.tup (xs := []) e rfl fun Q q => ⟨a, _, xs, rfl, rfl, SqT.of (e _ _ h1), .inr ⟨hk.1, fun z => hk.2 ?_, q⟩⟩
        have := h2.len
        rw [z] at this
        exact List.eq_nil_of_length_eq_zero this.symm
      · cases hw
  · cases hw
/-! ### a dict of the module: text keys -/
def kget : List (Str × D) → Str → Option D
  | [], _ => none
  | p :: r, z => if p.1 = z then some p.2 else kget r z
/-- the name x of the module: a dict of texts to ints or texts -/
structure KD (X : Cx) (x : Str) (kc : List (Str × D)) : Prop where
  ex : ∃ d es n, X.mg x = some (.ref d) ∧ KDict X.K X.w d es n ∧ ∀ z, match kget kc z with
    | none => PySem.W.nsIn X.K d z = some none
    | some v => ∃ u x, PySem.W.nsIn X.K d z = some (some u) ∧ RelV x u ∧ ∀ G, RepF X.K G v x
def gKGet (kc : List (Str × D)) : W → Option W
  | (_, .str z) => (kget kc z).map fun v => (0, v)
  | _ => none
def gKIn (neg : Bool) (kc : List (Str × D)) : W → Option W
  | (_, .str z) => some (0, .bl (neg != (kget kc z).isSome))
  | _ => none
theorem e_kget {x : Str} {p : Pos} {kc : List (Str × D)} (k : KD X x kc) (hg : Gl X x) (hb : OkE X b B) (hs : PlainIx b := by exact fun _ _ => rfl) (hdb : (x == ("__debug__" : Str)) = false := by decide) : OkE X (.Subscript (.Name x p) b pos) (pOp1 (gKGet kc) B) := by
  obtain ⟨d, es, n, hm, hk, hz⟩ := k.ex
  refine PE.imp (pe_ix ix_kdict (pe_glob (v := .ref d) hg hm rfl hdb) hb hs) fun σ H Q h => ?_
  refine op1_imp (r := fun y H Q => rIxD X.K X.w (.ref d) y H Q) ?_ σ H Q h
  intro G H u y Fu w e ru hw
  unfold gKGet at hw
  split at hw
  · rename_i z
    obtain ⟨v, hv, rfl⟩ := Option.map_eq_some_iff.mp hw
    obtain rfl := ru.str
    have := hz z
    rw [hv] at this
    obtain ⟨u0, x0, h1, h2, h3⟩ := this
    exact Res.pure e (h3 G) fun Q q => ⟨d, z, x0, rfl, rfl, ⟨es, n, u0, hk.at_, hk.lit, h1, h2⟩, q⟩
  · cases hw
theorem kin_core {d : Addr} {kc : List (Str × D)} {z : Str} (hz : match kget kc z with
    | none => PySem.W.nsIn K d z = some none
    | some v => ∃ u x, PySem.W.nsIn K d z = some (some u) ∧ RelV x u ∧ ∀ G, RepF K G v x) : ∃ r, PySem.W.nsIn K d z = some r ∧ r.isSome = (kget kc z).isSome := by
  cases hv : kget kc z with
  | none => rw [hv] at hz; exact ⟨none, hz, rfl⟩
  | some v => rw [hv] at hz; obtain ⟨u, x, h, _⟩ := hz; exact ⟨some u, h, rfl⟩
theorem e_kin {x : Str} {p : Pos} {kc : List (Str × D)} (k : KD X x kc) (hg : Gl X x) (ha : OkE X a A) (hdb : (x == ("__debug__" : Str)) = false := by decide) (hm : behindInMarks .In (.Name x p) = false := by rfl) : OkE X (.Compare a [.In] [.Name x p] pos) (pOp1 (gKIn false kc) A) := by
  obtain ⟨d, es, n, hm', hk, hz⟩ := k.ex
  refine PE.imp (pe_cmpR (op_in_kd hk) ha (pe_glob (v := .ref d) hg hm' rfl hdb) hm) fun σ H Q h => ?_
  refine op1_imp (r := fun y H Q => ∃ (z : Str) (r : Option Value), y = .str z ∧ V.ref d = .ref d ∧ PySem.W.nsIn X.K d z = some r ∧ Q (.bl r.isSome) H) ?_ σ H Q h
  intro G H u y Fu w e ru hw
  unfold gKIn at hw
  split at hw
  · rename_i z
    cases hw
    obtain rfl := ru.str
    obtain ⟨r, h1, h2⟩ := kin_core (hz z)
    exact Res.pure (v := .bl r.isSome) e (by show V.bl _ = V.bl _; rw [h2, Bool.false_bne]) fun Q q => ⟨z, r, rfl, rfl, h1, q⟩
  · cases hw
theorem e_knotin {x : Str} {p : Pos} {kc : List (Str × D)} (k : KD X x kc) (hg : Gl X x) (ha : OkE X a A) (hdb : (x == ("__debug__" : Str)) = false := by decide) (hm : behindInMarks .NotIn (.Name x p) = false := by rfl) : OkE X (.Compare a [.NotIn] [.Name x p] pos) (pOp1 (gKIn true kc) A) := by
  obtain ⟨d, es, n, hm', hk, hz⟩ := k.ex
  refine PE.imp (pe_cmpR (op_notIn_kd hk) ha (pe_glob (v := .ref d) hg hm' rfl hdb) hm) fun σ H Q h => ?_
  refine op1_imp (r := fun y H Q => ∃ (z : Str) (r : Option Value), y = .str z ∧ V.ref d = .ref d ∧ PySem.W.nsIn X.K d z = some r ∧ Q (.bl (!r.isSome)) H) ?_ σ H Q h
  intro G H u y Fu w e ru hw
  unfold gKIn at hw
  split at hw
  · rename_i z
    cases hw
    obtain rfl := ru.str
    obtain ⟨r, h1, h2⟩ := kin_core (hz z)
    exact Res.pure (v := .bl (!r.isSome)) e (by show V.bl _ = V.bl _; rw [h2, Bool.true_bne]) fun Q q => ⟨z, r, rfl, rfl, h1, q⟩
  · cases hw
/-- D.get(k, z) -/
def tKGet2 (X : Cx) (d : Addr) (ty tx : TE) : TE := fun σ H Q => ty σ H fun y H2 => tx σ H2 fun z H3 => ∃ (k : Str) (r : Option Value), y = .str k ∧ PySem.W.nsIn X.K d k = some r ∧ ((r = none ∧ Q z H3) ∨ ∃ u x, r = some u ∧ RelV x u ∧ Q x H3)
theorem pe_kget2 {x : Str} {p : Pos} {f : Expr} {apos cpos : Pos} {d : Addr} {es : Array DictEntry} {n : Nat} {ty tx : TE} (hk : KDict X.K X.w d es n) (hg : Gl X x) (hm : X.mg x = some (.ref d)) (he : PE X e ty) (hf : PE X f tx) (m : M2 X (.Name x p) "get" apos e f cpos) (hdb : (x == ("__debug__" : Str)) = false) :
    PE X (.Call (.Attribute (.Name x p) "get" apos) [e, f] [] cpos) (tKGet2 X d ty tx) := by
  refine ⟨fun pins s σ H Q I h => ?_⟩
  refine wpAny_Call_method m.base m.few m.line PySem.F.plainAttrs_dict PySem.F.slot_dict_get PySem.F.type_dict_get (thn ((pe_glob (v := .ref d) hg hm rfl hdb).run pins s σ H (fun v H' => v = .ref d ∧ tKGet2 X d ty tx σ H' Q) I ⟨rfl, h⟩) fun u s1 ⟨x, H1, I1, rx, ex, q1⟩ => ?_)
  subst ex
  obtain rfl : u = Value.ref d := rx
  refine ⟨kd_type hk I1, fun b q => ?_, ?_⟩
  · cases q
    exact ⟨_, I1.kIn d _ hk.at_, rfl⟩
  rw [m.trees]
  refine Calls.callWith_builtin rfl (Calls.evalArgs_plain (Calls.spliced_cons (thn (he.run pins s1 σ H1 _ I1 q1) fun iv s2 ⟨y, H2, I2, ry, q2⟩ =>
    Calls.spliced_cons (thn (hf.run pins s2 σ H2 _ I2 q2) fun fv s3 ⟨z, H3, I3, rz, k, r, ey, hr, q3⟩ => Calls.spliced_nil ?_))))
  subst ey
  obtain ⟨t, rfl⟩ := ry
  refine call_meetsIn PySem.F.slot_dict_get (kd_type hk I3) PySem.F.entry_dict_get (PySem.F.args_dict_get_3 _ _ _) (meets_dict_get_default (strKind X.prog X.w) d (PySem.strKind_is X.prog X.w k t) hk.low fv) ⟨_, PySem.W.mapOf_K (prog := X.prog) (w := X.w) I3.kIn hk.at_ hk.lit, ?_⟩
  show EP X pins σ Q ((findBy Value.isStrOf es k).getD fv) _
  rw [PySem.W.find_K hk.at_ hr]
  rcases q3 with ⟨rfl, q3⟩ | ⟨u, x, rfl, ru, q3⟩
  · exact ⟨z, H3, I3.tok _, rz, q3⟩
  · exact ⟨x, H3, I3.tok _, ru, q3⟩
def pKGet2 (kc : List (Str × D)) (B C : Fe) : Fe := fun ρ => (val B ρ).bind fun v => (C ρ).bind fun c => match v.2, c with
  | .str z, .v _ d => some (.v 0 ((kget kc z).getD d))
  | _, _ => none
theorem e_kget2 {x : Str} {p : Pos} {kc : List (Str × D)} {apos cpos : Pos} (k : KD X x kc) (hg : Gl X x) (hb : OkE X b B) (hc : OkE X c C) (m : M2 X (.Name x p) "get" apos b c cpos := by exact ⟨rfl, rfl, rfl, rfl⟩) (hdb : (x == ("__debug__" : Str)) = false := by decide) :
    OkE X (.Call (.Attribute (.Name x p) "get" apos) [b, c] [] cpos) (pKGet2 kc B C) := by
  obtain ⟨d, es, n, hm, hk, hz⟩ := k.ex
  refine PE.imp (pe_kget2 hk hg hm hb hc m hdb) fun σ H Q ⟨G0, ρ, ws, x, I, hf, q⟩ => ?_
  obtain ⟨⟨k1, dv⟩, hv, hf1⟩ := Option.bind_eq_some_iff.mp hf
  obtain ⟨c, hc, hf2⟩ := Option.bind_eq_some_iff.mp hf1
  clear hf hf1
  cases dv <;> first | (cases hf2; done) | skip
  rename_i z
  cases c with
  | r j => cases hf2
  | v k2 cd =>
    cases hf2
    obtain ⟨a2, hb, hg2⟩ := val_some hv
    refine ⟨G0, ρ, ws, a2, I, hb, fun y H2 I2 => ⟨G0, ρ, (y, a2) :: ws, .v k2 cd, I2, hc, fun z' H3 I3 => ?_⟩⟩
    obtain ⟨G, F1, F2, J⟩ := I3
    obtain ⟨G', F3, J1, e1, rz⟩ := J.freeze
    obtain ⟨Fy, ry⟩ := Si.top (ws := ws) J1 hg2
    obtain ⟨F4, _, J2⟩ := Si.drop (ws := ws) J1
    obtain rfl := RO.str ry
    have := hz z
    cases hk2 : kget kc z with
    | none =>
      rw [hk2] at this q
      exact ⟨z, none, rfl, this, .inl ⟨rfl, q _ _ (J2.pushF rz).SI⟩⟩
    | some v =>
      rw [hk2] at this q
      obtain ⟨u, x, h1, h2, h3⟩ := this
      exact ⟨z, some u, rfl, h1, .inr ⟨u, x, rfl, h2, q _ _ (J2.pushF (h3 G')).SI⟩⟩
/-! ### sorted(d) -/
def pSortedD (A : Fe) : Fe := fun ρ => (val A ρ).bind fun u => match u with
  | (k, .dct t kvs) => if k ≤ 1 then (sortD (kvs.map fun p => keyDat t p.1)).map fun w => .v w.1 w.2 else none
  | _ => none
theorem e_sortedD {p : Pos} (hcalm : X.calm = true) (hu : X.A.units + 64 < cLine) (hg : Gl X "sorted") (hm : X.mg "sorted" = none) (ha : OkE X a A) (hs : starEach (a :: []) X.env = (false, eval a X.env) :: starEach [] X.env := by rfl) : OkE X (.Call (.Name "sorted" p) [a] [] pos) (pSortedD A) :=
  PE.imp (pe_callB (cr_sortedDG hcalm hu) hg hm (by rfl) (a_cons ha a_nil hs) (by decide) (by decide) hs (by rfl)) fun σ H Q ⟨G0, ρ, ws, x, I, hf, q⟩ => by
  obtain ⟨⟨k, dv⟩, hv, hf1⟩ := Option.bind_eq_some_iff.mp hf
  clear hf
  cases dv <;> first | (cases hf1; done) | skip
  rename_i t kvs
  simp only at hf1
  split at hf1
  · rename_i hk
    obtain ⟨w, hw, rfl⟩ := Option.map_eq_some_iff.mp hf1
    obtain ⟨ps, hp, hw⟩ := Option.bind_eq_some_iff.mp hw
    split at hw
    · rename_i ok
      cases hw
      refine val1 I hv fun v H1 G F1 F2 Fx J rx => ?_
      obtain ⟨a, xs, rfl, h1, h2, h3⟩ := rx.dct1 J.ex hk
      refine ⟨G, t, kvs, ps, a, xs, rfl, J.ex, J.tu, h1, h2, h3, hp, ok.1, by simpa using ok.2, fun p ys hp' hy => ?_⟩
      have g := Grow.newO (o := .lst ys) J.ex hp' trivial
      exact q _ _ (J.push (k := 1) (d := .lst _) g ⟨p, ys, [], rfl, upd_same, rfl, ROs.of_F hy⟩).SI
    · cases hw
  · cases hf1
end
end Pv
set_option Elab.async false
set_option linter.all false
set_option maxRecDepth 100000
/-! P16: extend, pop, setdefault(..).append, {k: v} -/
namespace Pv
open PySem PySem.Spec PyProof.Rows L2
section
variable {X : Cx} {K : PySem.W.Frag} {G0 G G1 G' H H' : Hp} {σ : L2.St} {ρ : Env} {ws : List (V × Arg)} {F F1 F2 : List Addr} {e a b c tg : Expr} {es : List Expr} {pos : Pos} {A B C : Fe}
theorem Si.updO {i : Nat} {p : Addr} {o : HO} {w w' : W} {v : V} {pre : List (V × Arg)} {Fa F' F'' Fb : List Addr} (I : Si K G0 σ ρ pre H G (Fa ++ (p :: F') ++ Fb) F2) (ho : isOwn o)
    (hs : ∀ (G' H' : Hp) (w' : W) (Fi' : List Addr), Same G G' → (∀ b ∈ Fa ++ Fb, H' b = H b) → RO K G' H' w'.1 w'.2 v Fi' → RSl K G' H' σ (ρ.set i (some w')) (Fa ++ Fi' ++ Fb))
    (nd : F''.Nodup) (sub : ∀ b ∈ F'', b ∈ F' ∨ b ∈ F2) (r : RO K G (upd H p o) w'.1 w'.2 v (p :: F'')) : Si K G0 σ (ρ.set i (some w')) [] (upd H p o) G (Fa ++ (p :: F'') ++ Fb) [] := by
  have n := I.nd
  have fr := I.fr
  simp only [List.nodup_append, List.mem_append, List.nodup_cons, List.mem_cons, List.cons_append] at n fr
  obtain ⟨⟨⟨n1, ⟨n2, n3⟩, n4⟩, n5, n6⟩, n7, n8⟩ := n
  have hp : ∀ b, b ∈ Fa ∨ b ∈ Fb → b ≠ p := fun b hb z => by
    subst z
    rcases hb with hb | hb
    · exact n4 b hb b (.inl rfl) rfl
    · exact n6 b (.inr (.inl rfl)) b hb rfl
  have hG : G p = none := fr p (by simp)
  refine ⟨I.ex0, fun b u q => ?_, hs G _ w' (p :: F'') (Same.refl _) (fun b hb => upd_ne (hp b (by simpa using hb))) r, rfl, ?_, fun b hb => ?_, fun b u q1 q2 => ?_, by rw [List.length_set]; exact I.ln⟩
  · rw [upd_ne (ne_of_none q hG)]; exact I.ex b u q
  · simp only [List.nodup_append, List.mem_append, List.nodup_cons, List.mem_cons, List.cons_append, List.append_nil]
    refine ⟨⟨n1, ⟨fun z => ?_, nd⟩, fun x hx y hy e => ?_⟩, n5, fun x hx y hy e => ?_⟩
    · rcases sub p z with q | q
      · exact n2 q
      · exact n8 p (.inl (.inr (.inl rfl))) p q rfl
    · subst e
      rcases hy with hy | hy
      · exact n4 x hx x (.inl hy) rfl
      · rcases sub x hy with q | q
        · exact n4 x hx x (.inr q) rfl
        · exact n8 x (.inl (.inl hx)) x q rfl
    · subst e
      rcases hx with hx | hx | hx
      · exact n6 x (.inl hx) x hy rfl
      · exact n6 x (.inr (.inl hx)) x hy rfl
      · rcases sub x hx with q | q
        · exact n6 x (.inr (.inr q)) x hy rfl
        · exact n8 x (.inr hy) x q rfl
  · apply fr
    simp only [List.mem_append, List.mem_cons, List.append_nil, List.cons_append] at hb
    rcases hb with (hb | hb | hb) | hb
    · exact .inl (.inl (.inl hb))
    · exact .inl (.inl (.inr (.inl hb)))
    · rcases sub b hb with q | q
      · exact .inl (.inl (.inr (.inr q)))
      · exact .inr q
    · exact .inl (.inr hb)
  · by_cases hb : b = p
    · subst hb; rw [upd_same] at q1; cases q1; exact absurd ho q2
    · rw [upd_ne hb] at q1; exact I.tu b u q1 q2
/-- x.extend(e), x in slot i a list of frozen items -/
def sExt (i : Nat) (A : Fe) : Fs := fun ρ => match (ρ[i]?).join with
  | some (1, .lst ds) => (A ρ).bind fun a => match a with
    | .v _ (.lst cs) => if ds.length + cs.length ≤ big then some (.nx, ρ.set i (some (1, .lst (ds ++ cs)))) else none
    | _ => none
  | _ => none
theorem s_ext {i : Nat} {x : Str} {p apos cpos : Pos} (he : OkE X e A) (hN : X.N[i]? = some x := by rfl) (hv : Vis X.env.scope x := by first | exact Or.inl rfl | exact Or.inr (Or.inl rfl) | exact Or.inr (Or.inr rfl)) (hd : (x == ("__debug__" : Str)) = false := by decide) (hcd : (x == ("__classdict__" : Str)) = false := by decide)
    (hfew : ((backTo cpos (starEach [e] X.env)).all (fun x => !x.1) && (backToKw cpos (keywordEach [] X.env)).all (fun x => x.1.isSome) && decide ([e].length + ([] : List Keyword).length + (if ([] : List Keyword).isEmpty then 0 else 1) < 30)) = true := by rfl)
    (hline : (apos.endLine == cpos.line) = true := by rfl) (hs : starEach [e] X.env = (false, eval e X.env) :: starEach [] X.env := by rfl) (hsw : swapsWith (.Call (.Attribute (.Name x p) "extend" apos) [e] [] cpos) none pos.line X.env = pure false := by rfl) :
    OkS X (.Expr (.Call (.Attribute (.Name x p) "extend" apos) [e] [] cpos) pos) (sExt i A) :=
  PS.imp (ps_expr (pe_bm PySem.F.plainAttrs_list PySem.F.slot_list_extend PySem.F.type_list_extend mt_extend (pe_var hN hv hd hcd) (pa_cons he pa_nil hs) (by rfl) hfew hline hs (by rfl)) hsw) fun D σ H ⟨G0, ρ, fl, ρ', I, hf, post⟩ => by
  unfold sExt at hf
  split at hf
  · rename_i ds hw
    have hρ := join_some hw
    obtain ⟨a, ha, hf1⟩ := Option.bind_eq_some_iff.mp hf
    clear hf
    split at hf1
    · rename_i k cs
      split at hf1
      · rename_i hz
        cases hf1
        have hx : ∃ p xs, σ[i]? = some (some (.ref p)) ∧ H p = some (.lst xs) := by
          obtain ⟨G, F1, F2, J⟩ := I
          obtain ⟨v, Fi, h1, h2, _⟩ := J.sl.at hρ
          obtain ⟨p, xs, rfl, h3, _⟩ := RO.lstN J.ex h2
          exact ⟨p, xs, h1, h3⟩
        obtain ⟨p, xs, h1, h2⟩ := hx
        refine ⟨.ref p, h1, .inl ⟨rfl, xs, SqL.of h2⟩, G0, ρ, [], _, I, ha, fun y H1 I1 => ?_⟩
        obtain ⟨G, F1, F2, J⟩ := I1
        obtain ⟨G2, F4, J2, e2, r2⟩ := J.freeze
        obtain ⟨q, zs, rfl, h3, h4⟩ := r2
        obtain ⟨v, Fa, Fi, Fb, e1, q1, q2, q3⟩ := J2.slot hρ
        rw [h1] at q1
        cases q1
        obtain ⟨p', xs', F', q0, q4, rfl, q5⟩ := q2
        cases q0
        subst e1
        obtain ⟨h6, h7⟩ := ROs.to_F q5
        subst h7
        refine ⟨p, q, xs', zs, rfl, rfl, q4, J2.ex _ _ h3, by rw [h6.len, h4.len]; exact big_line hz, post _ _ ?_⟩
        exact (Si.updO (w := (1, .lst ds)) (w' := (1, .lst (ds ++ cs))) (F'' := []) (o := .lst _) J2 trivial q3 List.nodup_nil (fun b hb => by cases hb) ⟨p, xs' ++ zs, [], rfl, upd_same, rfl, ROs.of_F (h6.append h4)⟩).SI
      · cases hf1
    · cases hf1
  · cases hf
/-! ### pop() -/
theorem RepFs.dropLast : ∀ {ds : List D} {xs : List V}, RepFs K G ds xs → RepFs K G ds.dropLast xs.dropLast
  | [], _, h => by rw [show _ = [] from h]; exact (rfl : ([] : List V) = [])
  | [d], _, ⟨x, r, h1, h2, h3⟩ => by rw [h1, show r = [] from h3]; exact (rfl : ([] : List V) = [])
  | d :: d' :: ds, _, ⟨x, r, h1, h2, h3⟩ => by
    obtain ⟨x', r', rfl, h4, h5⟩ := h3
    subst h1
    exact ⟨x, _, rfl, h2, RepFs.dropLast ⟨x', r', rfl, h4, h5⟩⟩
theorem pop_core {i : Nat} {ds : List D} {d : D} (I : SI K G0 σ ρ [] H) (hρ : ρ[i]? = some (some (1, .lst ds))) (hd : ds[ds.length - 1]? = some d) :
    ∃ p xs y, σ[i]? = some (some (.ref p)) ∧ H p = some (.lst xs) ∧ xs[xs.length - 1]? = some y ∧ ∃ G F1 F2, Si K G0 σ (ρ.set i (some (1, .lst ds.dropLast))) [] (upd H p (.lst xs.dropLast)) G F1 F2 ∧ RepF K G d y := by
  obtain ⟨G, F1, F2, J⟩ := I
  obtain ⟨v, Fa, Fi, Fb, e1, q1, q2, q3⟩ := J.slot hρ
  obtain ⟨p, xs, F', rfl, q4, rfl, q5⟩ := q2
  subst e1
  obtain ⟨h6, h7⟩ := ROs.to_F q5
  subst h7
  obtain ⟨y, hy, ry⟩ := h6.get hd
  exact ⟨p, xs, y, q1, q4, by rw [h6.len]; exact hy, G, _, _, Si.updO (w := (1, .lst ds)) (w' := (1, .lst ds.dropLast)) (F'' := []) (o := .lst _) J trivial q3 List.nodup_nil (fun b hb => by cases hb) ⟨p, xs.dropLast, [], rfl, upd_same, rfl, ROs.of_F h6.dropLast⟩, ry⟩
/-- y = x.pop() -/
def sPop (i j : Nat) : Fs := fun ρ => match (ρ[i]?).join with
  | some (1, .lst ds) => (ds[ds.length - 1]?).bind fun d => if j < ρ.length then some (.nx, (ρ.set i (some (1, .lst ds.dropLast))).set j (some (0, d))) else none
  | _ => none
theorem s_pop {i j : Nat} {x y : Str} {p py apos cpos : Pos} (hN : X.N.Nodup) (hi : X.N[i]? = some x := by rfl) (hj : X.N[j]? = some y := by rfl) (hv : Vis X.env.scope x := by first | exact Or.inl rfl | exact Or.inr (Or.inl rfl) | exact Or.inr (Or.inr rfl)) (hd : (x == ("__debug__" : Str)) = false := by decide) (hcd : (x == ("__classdict__" : Str)) = false := by decide)
    (hx : Loc X.env.scope y := by first | exact Or.inl rfl | exact Or.inr rfl) (hline : (apos.endLine == cpos.line) = true := by rfl) (hs : swapsWith (.Call (.Attribute (.Name x p) "pop" apos) [] [] cpos) (some (.Name y py)) pos.line X.env = pure false := by rfl)
    (hf : X.fn y = true ∨ X.env.scope.names.lookup y = some .local := by first | exact .inl rfl | exact .inr rfl) : OkS X (.Assign [.Name y py] (.Call (.Attribute (.Name x p) "pop" apos) [] [] cpos) pos) (sPop i j) :=
  PS.imp (ps_set hN hj hx (pe_bm0 PySem.F.plainAttrs_list PySem.F.slot_list_pop PySem.F.type_list_pop mt_pop (pe_var hi hv hd hcd) (by rfl) hline) hs hf) fun D σ H ⟨G0, ρ, fl, ρ', I, hf, post⟩ => by
  unfold sPop at hf
  split at hf
  · rename_i ds hw
    obtain ⟨d, hd, hf1⟩ := Option.bind_eq_some_iff.mp hf
    clear hf
    split at hf1
    · rename_i hlt
      cases hf1
      obtain ⟨p, xs, y, h1, h2, h3, G, F1, F2, J, ry⟩ := pop_core I (join_some hw) hd
      refine ⟨.ref p, h1, .inl ⟨rfl, xs, SqL.of h2⟩, p, xs, y, rfl, rfl, h2, h3, post _ _ ?_⟩
      exact (J.pushF ry).SI.store (by rw [List.length_set]; exact hlt)
    · cases hf1
  · cases hf
/-- y = z[x.pop()] -/
def sPopIx (i j m : Nat) : Fs := fun ρ => match (ρ[i]?).join with
  | some (1, .lst ds) => (ds[ds.length - 1]?).bind fun d => if j < ρ.length then if i = m then none else ((ρ[m]?).join).bind fun u => (gIx u (0, d)).map fun w => (.nx, (ρ.set i (some (1, .lst ds.dropLast))).set j (some w)) else none
  | _ => none
theorem s_popIx {i j m : Nat} {x y z : Str} {p py pz apos cpos ppos : Pos} (hN : X.N.Nodup) (hi : X.N[i]? = some x := by rfl) (hj : X.N[j]? = some y := by rfl) (hm : X.N[m]? = some z := by rfl) (hv : Vis X.env.scope x := by first | exact Or.inl rfl | exact Or.inr (Or.inl rfl) | exact Or.inr (Or.inr rfl)) (hd : (x == ("__debug__" : Str)) = false := by decide) (hcd : (x == ("__classdict__" : Str)) = false := by decide)
    (hv2 : Vis X.env.scope z := by first | exact Or.inl rfl | exact Or.inr (Or.inl rfl) | exact Or.inr (Or.inr rfl)) (hd2 : (z == ("__debug__" : Str)) = false := by decide) (hcd2 : (z == ("__classdict__" : Str)) = false := by decide)
    (hx : Loc X.env.scope y := by first | exact Or.inl rfl | exact Or.inr rfl) (hline : (apos.endLine == cpos.line) = true := by rfl) (hpl : PlainIx (.Call (.Attribute (.Name x p) "pop" apos) [] [] cpos) := by exact fun _ _ => rfl)
    (hs : swapsWith (.Subscript (.Name z pz) (.Call (.Attribute (.Name x p) "pop" apos) [] [] cpos) ppos) (some (.Name y py)) pos.line X.env = pure false := by rfl)
    (hf : X.fn y = true ∨ X.env.scope.names.lookup y = some .local := by first | exact .inl rfl | exact .inr rfl) : OkS X (.Assign [.Name y py] (.Subscript (.Name z pz) (.Call (.Attribute (.Name x p) "pop" apos) [] [] cpos) ppos) pos) (sPopIx i j m) :=
  PS.imp (ps_set hN hj hx (pe_ix ix_seq (pe_var hm hv2 hd2 hcd2) (pe_bm0 PySem.F.plainAttrs_list PySem.F.slot_list_pop PySem.F.type_list_pop mt_pop (pe_var hi hv hd hcd) (by rfl) hline) hpl) hs hf) fun D σ H ⟨G0, ρ, fl, ρ', I, hf, post⟩ => by
  unfold sPopIx at hf
  split at hf
  · rename_i ds hw
    obtain ⟨d, hd, hf1⟩ := Option.bind_eq_some_iff.mp hf
    clear hf
    split at hf1
    · rename_i hlt
      split at hf1
      · cases hf1
      · rename_i hne
        obtain ⟨u, hu, hf2⟩ := Option.bind_eq_some_iff.mp hf1
        obtain ⟨w, hw2, hf3⟩ := Option.map_eq_some_iff.mp hf2
        cases hf3
        clear hf1 hf2
        obtain ⟨p, xs, y, h1, h2, h3, G, F1, F2, J, ry⟩ := pop_core I (join_some hw) hd
        have hm' : (ρ.set i (some (1, Pv.D.lst ds.dropLast)))[m]? = some (some u) := by rw [List.getElem?_set_ne hne]; exact join_some hu
        obtain ⟨v, Fi, q1, q2, _⟩ := J.sl.at hm'
        refine ⟨v, q1, .ref p, h1, .inl ⟨rfl, xs, SqL.of h2⟩, p, xs, y, rfl, rfl, h2, h3, ?_⟩
        refine g_ix G _ u (0, d) v y Fi [] w J.ex q2 ⟨ry, rfl⟩ hw2 _ fun t H' G' F' gr rt => post _ _ ?_
        exact (J.push gr rt).SI.store (by rw [List.length_set]; exact hlt)
    · cases hf1
  · cases hf
/-! ### {k: v} -/
theorem Si.setTop {p : Addr} {o : HO} {w w' : W} (I : Si K G0 σ ρ ((.ref p, .v w.1 w.2) :: ws) H G F1 F2) (ho : isOwn o) (hw : ∀ F, RO K G H w.1 w.2 (.ref p) F → F = [p]) (r : RO K G (upd H p o) w'.1 w'.2 (.ref p) [p]) : Si K G0 σ ρ ((.ref p, .v w'.1 w'.2) :: ws) (upd H p o) G F1 F2 := by
  obtain ⟨Fa, Fb, e, h1, h2⟩ := I.wv
  obtain rfl := hw Fa h1
  subst e
  have n := I.nd
  simp only [List.nodup_append, List.mem_append, List.nodup_cons, List.mem_cons, List.cons_append, List.nil_append] at n
  have hp : G p = none := I.fr p (by simp)
  have h1 : ∀ a ∈ F1, a ≠ p := fun a ha e => n.2.2 a ha p (.inl rfl) e
  have h2' : ∀ a ∈ Fb, a ≠ p := fun a ha e => n.2.1.1 (e ▸ ha)
  refine ⟨I.ex0, fun b u q => ?_, RSl.mono (Same.refl _) _ _ _ (fun a ha => upd_ne (h1 a ha)) I.sl, ⟨[p], Fb, rfl, r, RWs.mono (Same.refl _) _ _ (fun a ha => upd_ne (h2' a ha)) h2⟩, I.nd, I.fr, fun b u q1 q2 => ?_, I.ln⟩
  · rw [upd_ne (ne_of_none q hp)]; exact I.ex b u q
  · by_cases hb : b = p
    · subst hb; rw [upd_same] at q1; cases q1; exact absurd ho q2
    · rw [upd_ne hb] at q1; exact I.tu b u q1 q2
def pDisp1 (B A : Fe) : Fe := fun ρ => (val B ρ).bind fun u => (keyK u.2).bind fun k => (A ρ).bind fun a => match a with
  | .v _ d => some (.v 1 (.dct false [([k], d)]))
  | .r _ => none
theorem e_disp1 (hb : OkE X b B) (ha : OkE X a A) : OkE X (.Dict [some b] [a] pos) (pDisp1 B A) := PE.imp (pe_disp (pps_cons hb ha pps_nil) rfl rfl (by simp) (by show 1 ≤ 15; decide)) fun σ H Q ⟨G0, ρ, ws, x, I, hf, q⟩ p hp => by
  obtain ⟨u, hu, hf1⟩ := Option.bind_eq_some_iff.mp hf
  obtain ⟨k, hk, hf2⟩ := Option.bind_eq_some_iff.mp hf1
  obtain ⟨c, hc, hf3⟩ := Option.bind_eq_some_iff.mp hf2
  clear hf hf1 hf2
  cases c with
  | r j => cases hf3
  | v j d =>
    cases hf3
    obtain ⟨a1, ha1, hg1⟩ := val_some hu
    obtain ⟨G, F1, F2, J⟩ := I
    have g := Grow.newO (o := .dK []) J.ex hp trivial
    have J0 := J.push (k := 1) (d := .dct false []) (v := .ref p) g ⟨p, [], [], rfl, upd_same, (fun _ p h => by cases h), rfl, rfl, rfl⟩
    refine ⟨G0, ρ, (.ref p, .v 1 (.dct false [])) :: ws, a1, J0.SI, ha1, fun y H1 I1 => ⟨G0, ρ, (y, a1) :: (.ref p, .v 1 (.dct false [])) :: ws, .v j d, I1, hc, fun z H2 I2 => ?_⟩⟩
    obtain ⟨G2, F3, F4, J2⟩ := I2
    obtain ⟨G3, F5, J3, e3, rz⟩ := J2.freeze
    obtain ⟨Fy, ry⟩ := Si.top (ws := (.ref p, .v 1 (.dct false [])) :: ws) J3 hg1
    obtain rfl := keyK_rep hk ry
    obtain ⟨F6, _, J4⟩ := Si.drop (ws := (.ref p, .v 1 (.dct false [])) :: ws) J3
    obtain ⟨Fp, rp⟩ := Si.top (ws := ws) J4 (show Arg.get ρ (.v 1 (.dct false [])) = some (1, .dct false []) from rfl)
    have hp2 : H2 p = some (.dK []) := by
      obtain ⟨p', xs, F', q0, h4, _, _, h5⟩ := rp
      cases q0
      rw [h5.1] at h4
      exact h4
    refine ⟨hp2, [(k, z)], rfl, (by show 1 ≤ 15; decide), q _ _ (Si.setTop (w := (1, .dct false [])) (w' := (1, .dct false [([k], d)])) (o := .dK _) J4 trivial (fun F r => ?_) ⟨p, [([k], z)], [], rfl, upd_same, fun _ q hq => ⟨k, by rw [List.mem_singleton.mp hq]⟩, rfl, ROk.of_F ⟨z, [], rfl, rz, rfl⟩⟩).SI⟩
    obtain ⟨p', xs, F', q0, h4, _, e5, h5⟩ := r
    cases q0
    rw [e5, h5.2]
end
end Pv
set_option Elab.async false
set_option linter.all false
set_option maxRecDepth 100000
/-! P17: x.setdefault(k, []).append(v) -/
namespace Pv
open PySem PySem.Spec PyProof.Rows L2
def setD : List (List Key × D) → List Key → D → List (List Key × D)
  | [], _, _ => []
  | p :: r, k, d => if p.1 = k then (p.1, d) :: r else p :: setD r k d
section
variable {X : Cx} {K : PySem.W.Frag} {G0 G G1 G' H H' : Hp} {σ : L2.St} {ρ : Env} {ws : List (V × Arg)} {F F1 F2 : List Addr} {e a b c tg : Expr} {es : List Expr} {pos : Pos} {A B C : Fe}
theorem ROk.zoom {R : D → V → List Addr → Prop} {k : List Key} : ∀ {kvs : List (List Key × D)} {xs : List (List Key × V)} {F : List Addr} {d : D}, ROk R kvs xs F → valD kvs k = some d →
    ∃ v FL Fd FR, F = FL ++ Fd ++ FR ∧ valV xs k = some v ∧ R d v Fd ∧ ∀ (R' : D → V → List Addr → Prop) (d' : D) (Fd' : List Addr), (∀ e u Fe, (∀ a ∈ Fe, a ∈ FL ++ FR) → R e u Fe → R' e u Fe) → R' d' v Fd' → ROk R' (setD kvs k d') xs (FL ++ Fd' ++ FR)
  | [], _, _, _, _, h => by cases h
  | (k', e) :: r, _, F, d, ⟨x, xs, Fa, Fb, h1, h2, h3, h4⟩, h => by
    subst h1 h2
    unfold valD at h
    split at h
    · rename_i ek
      cases h
      refine ⟨x, [], Fa, Fb, rfl, valV_pos ek, h3, fun R' d' Fd' f r' => ?_⟩
      unfold setD
      rw [if_pos ek]
      exact ⟨x, xs, Fd', Fb, rfl, rfl, r', ROk.imp _ _ _ (fun d v F1 s => f d v F1 fun a ha => by simpa using s a ha) h4⟩
    · rename_i ek
      obtain ⟨v, FL, Fd, FR, q1, q2, q3, q4⟩ := ROk.zoom h4 h
      subst q1
      refine ⟨v, Fa ++ FL, Fd, FR, by simp [List.append_assoc], by rw [valV_neg ek]; exact q2, q3, fun R' d' Fd' f r' => ?_⟩
      unfold setD
      rw [if_neg ek]
      refine ⟨x, xs, Fa, FL ++ Fd' ++ FR, rfl, by simp [List.append_assoc], f _ _ _ (fun a ha => by simp [ha]) h3, q4 R' d' Fd' (fun e u Fe s => f e u Fe fun a ha => ?_) r'⟩
      have := s a ha
      simp only [List.mem_append] at this ⊢
      rcases this with z | z
      · exact .inl (.inr z)
      · exact .inr z
theorem ROk.vnone {R : D → V → List Addr → Prop} {k : List Key} : ∀ {kvs : List (List Key × D)} {xs : List (List Key × V)} {F : List Addr}, ROk R kvs xs F → valD kvs k = none → valV xs k = none
  | [], _, _, h, _ => by rw [h.1]; rfl
  | (k', e) :: r, _, F, ⟨x, xs, Fa, Fb, h1, h2, h3, h4⟩, h => by
    subst h1
    unfold valD at h
    split at h
    · cases h
    · rename_i ek
      rw [valV_neg ek]
      exact ROk.vnone h4 h
theorem ROk.snoc {R : D → V → List Addr → Prop} {k : List Key} {d : D} {v : V} {Fd : List Addr} (r : R d v Fd) : ∀ {kvs : List (List Key × D)} {xs : List (List Key × V)} {F : List Addr}, ROk R kvs xs F → ROk R (kvs ++ [(k, d)]) (xs ++ [(k, v)]) (F ++ Fd)
  | [], _, _, h => by rw [h.1, h.2]; exact ⟨v, [], Fd, [], rfl, by simp, r, rfl, rfl⟩
  | (k', e) :: t, _, F, ⟨x, xs, Fa, Fb, h1, h2, h3, h4⟩ => by
    subst h1 h2
    exact ⟨x, xs ++ [(k, v)], Fa, Fb ++ Fd, rfl, by simp [List.append_assoc], h3, ROk.snoc r h4⟩
theorem ROk.len {R : D → V → List Addr → Prop} : ∀ {kvs : List (List Key × D)} {xs : List (List Key × V)} {F : List Addr}, ROk R kvs xs F → xs.length = kvs.length
  | [], _, _, h => by rw [h.1]; rfl
  | (k', e) :: t, _, F, ⟨x, xs, Fa, Fb, h1, h2, h3, h4⟩ => by rw [h1, List.length_cons, List.length_cons, ROk.len h4]
def setAppD (kvs : List (List Key × D)) (k : List Key) (d : D) : Option (List (List Key × D)) :=
  if kvs.length < big then match valD kvs k with
    | some (.lst ds) => if ds.length < big then some (setD kvs k (.lst (ds ++ [d]))) else none
    | none => some (kvs ++ [(k, .lst [d])])
    | _ => none
  else none
/-- x.setdefault(k, []).append(v): x in slot i a dict of own lists, v in slot m -/
def sSetApp (i : Nat) (B : Fe) (m : Nat) : Fs := fun ρ => match (ρ[i]?).join with
  | some (2, .dct false kvs) => (val B ρ).bind fun u => (keyK u.2).bind fun k => ((ρ[m]?).join).bind fun w => if w.1 = 0 then (setAppD kvs [k] w.2).map fun kvs' => (.nx, ρ.set i (some (2, .dct false kvs'))) else none
  | _ => none
set_option maxHeartbeats 1000000 in
theorem s_setApp {i m : Nat} {x v : Str} {p pv pl a1 c1 a2 c2 : Pos} (hb : OkE X b B) (hi : X.N[i]? = some x := by rfl) (hm : X.N[m]? = some v := by rfl) (hv : Vis X.env.scope x := by first | exact Or.inl rfl | exact Or.inr (Or.inl rfl) | exact Or.inr (Or.inr rfl)) (hd : (x == ("__debug__" : Str)) = false := by decide) (hcd : (x == ("__classdict__" : Str)) = false := by decide)
    (hv2 : Vis X.env.scope v := by first | exact Or.inl rfl | exact Or.inr (Or.inl rfl) | exact Or.inr (Or.inr rfl)) (hd2 : (v == ("__debug__" : Str)) = false := by decide) (hcd2 : (v == ("__classdict__" : Str)) = false := by decide)
    (mm : M2 X (.Name x p) "setdefault" a1 b (.List [] pl) c1 := by exact ⟨rfl, rfl, rfl, rfl⟩)
    (hfew : ((backTo c2 (starEach [.Name v pv] X.env)).all (fun x => !x.1) && (backToKw c2 (keywordEach [] X.env)).all (fun x => x.1.isSome) && decide ([Expr.Name v pv].length + ([] : List Keyword).length + (if ([] : List Keyword).isEmpty then 0 else 1) < 30)) = true := by rfl)
    (hline : (a2.endLine == c2.line) = true := by rfl) (hs : starEach [.Name v pv] X.env = (false, eval (.Name v pv) X.env) :: starEach [] X.env := by rfl)
    (hbase : attributeBase (.Call (.Attribute (.Name x p) "setdefault" a1) [b, .List [] pl] [] c1) "append" X.env (eval (.Call (.Attribute (.Name x p) "setdefault" a1) [b, .List [] pl] [] c1) X.env) = eval (.Call (.Attribute (.Name x p) "setdefault" a1) [b, .List [] pl] [] c1) X.env := by rfl)
    (hsw : swapsWith (.Call (.Attribute (.Call (.Attribute (.Name x p) "setdefault" a1) [b, .List [] pl] [] c1) "append" a2) [.Name v pv] [] c2) none pos.line X.env = pure false := by rfl) :
    OkS X (.Expr (.Call (.Attribute (.Call (.Attribute (.Name x p) "setdefault" a1) [b, .List [] pl] [] c1) "append" a2) [.Name v pv] [] c2) pos) (sSetApp i B m) :=
  PS.imp (ps_expr (pe_bm PySem.F.plainAttrs_list PySem.F.slot_list_append PySem.F.type_list_append mt_append (pe_dsetd (pe_var hi hv hd hcd) hb (pe_lst pa_nil) mm) (pa_cons (pe_var hm hv2 hd2 hcd2) pa_nil hs) hbase hfew hline hs (by rfl)) hsw) fun D σ H ⟨G0, ρ, fl, ρ', I, hf, post⟩ => by
  unfold sSetApp at hf
  split at hf
  · rename_i kvs hw
    obtain ⟨u, hu, hf1⟩ := Option.bind_eq_some_iff.mp hf
    obtain ⟨k, hk, hf2⟩ := Option.bind_eq_some_iff.mp hf1
    obtain ⟨⟨k0, dv⟩, hwm, hf3⟩ := Option.bind_eq_some_iff.mp hf2
    clear hf hf1 hf2
    simp only at hf3
    split at hf3
    · rename_i hk0
      subst hk0
      obtain ⟨kvs', hset, hf4⟩ := Option.map_eq_some_iff.mp hf3
      cases hf4
      clear hf3
      have hρ := join_some hw
      have hx : ∃ p xs, σ[i]? = some (some (.ref p)) ∧ H p = some (hoD false xs) := by
        obtain ⟨G, F1, F2, J⟩ := I
        obtain ⟨v, Fi, h1, h2, _⟩ := J.sl.at hρ
        obtain ⟨p, xs, F', rfl, h3, _⟩ := h2
        exact ⟨p, xs, h1, h3⟩
      obtain ⟨p, xs0, h1, h2⟩ := hx
      obtain ⟨ab, hab, hgb⟩ := val_some hu
      refine ⟨.ref p, h1, p, rfl, .inl ⟨_, .inl h2⟩, G0, ρ, [], ab, I, hab, fun y H2 I2 => ⟨Nat.zero_le _, fun q hq => ?_⟩⟩
      obtain ⟨G, F1, F2, J⟩ := I2
      obtain ⟨Fy, ry⟩ := Si.top (ws := []) J hgb
      obtain rfl := keyK_rep hk ry
      obtain ⟨F3, _, J1⟩ := Si.drop (ws := []) J
      obtain rfl : F3 = [] := J1.wv
      obtain ⟨v, Fa, Fi, Fb, e1, h3, h4, h5⟩ := J1.slot hρ
      rw [h1] at h3
      cases h3
      obtain ⟨p', xs, F', q0, h6, hok, e2, h7⟩ := h4
      cases q0
      subst e2 e1
      obtain ⟨vm, Fm, m1, ⟨m2, _⟩, _⟩ := J1.sl.at (join_some hwm)
      have hpq : p ≠ q := fun z => by rw [z, hq] at h6; cases h6
      have fr := J1.fr
      have nd := J1.nd
      simp only [List.nodup_append, List.mem_append, List.nodup_cons, List.mem_cons, List.cons_append, List.append_nil] at nd fr
      obtain ⟨⟨n1, ⟨n2, n3⟩, n4⟩, n5, n6⟩ := nd
      have hG : ∀ z, H2 z ≠ none → z ≠ q := fun z hz e => hz (by rw [e]; exact hq)
      have own := J1.own
      have live : ∀ z, z ∈ Fa ++ (p :: F') ++ Fb → z ≠ q := fun z hz => hG z (by obtain ⟨o, ho, _⟩ := own z (by simpa using hz); rw [ho]; simp)
      have Gq : G q = none := J1.ex.free hq
      have hl : xs.length = kvs.length := h7.len
      unfold setAppD at hset
      split at hset
      · rename_i hz
        refine ⟨xs.map (fun p => (p.1.headD (.inl 0), p.2)), k, by rw [upd_ne hpq]; exact h6, rfl, by rw [List.length_map, hl]; exact big_lt hz, fun w hw' => ?_, fun hw' => ?_⟩
        · rw [valV_head k xs (hok rfl)] at hw'
          split at hset
          · rename_i ds hds
            split at hset
            · rename_i hz2
              cases hset
              obtain ⟨v0, FL, Fd, FR, g1, g2, g3, g4⟩ := h7.zoom hds
              rw [hw'] at g2
              cases g2
              obtain ⟨bb, ys, F'', rfl, g5, g6, g7⟩ := g3
              obtain ⟨g8, g9⟩ := ROs.to_F g7
              subst g9 g6 g1
              have hbq : bb ≠ q := live bb (by simp)
              have g5' : upd H2 q (.lst []) bb = some (.lst ys) := by rw [upd_ne hbq]; exact g5
              refine ⟨.inl ⟨rfl, ys, SqL.of g5'⟩, vm, m1, bb, ys, vm, rfl, rfl, g5', by rw [g8.len]; exact big_lt hz2, post _ _ ?_⟩
              simp only [List.mem_append, List.mem_cons, List.nodup_append, List.nodup_cons, List.not_mem_nil, or_false] at n2 n3 n4 n6 fr
              have hpb : p ≠ bb := fun z => n2 (.inl (.inr z))
              have Gb : G bb = none := fr bb (by simp)
              have ne : ∀ z, z ∈ Fa ∨ z ∈ Fb → z ≠ bb := fun z hz e => by
                subst e
                rcases hz with hz | hz
                · exact n4 z hz z (.inr (.inl (.inr rfl))) rfl
                · exact n6 z (.inr (.inr (.inl (.inr rfl)))) z hz rfl
              have ne2 : ∀ z, z ∈ FL ++ FR → z ≠ bb := fun z hz e => by
                subst e
                rcases List.mem_append.mp hz with hz | hz
                · exact n3.1.2.2 z hz z rfl rfl
                · exact n3.2.2 z (.inr rfl) z hz rfl
              refine ⟨G, Fa ++ (p :: (FL ++ [bb] ++ FR)) ++ Fb, [], J1.ex0, fun z o hz => ?_, h5 G _ (2, .dct false (setD kvs [k] (.lst (ds ++ [dv])))) (p :: (FL ++ [bb] ++ FR)) (Same.refl _) (fun z hz => ?_) ⟨p, xs, FL ++ [bb] ++ FR, rfl, ?_, hok, rfl, ?_⟩, rfl, J1.nd, J1.fr, fun z o hz1 hz2 => ?_, by rw [List.length_set]; exact J1.ln⟩
              · have e1 : z ≠ bb := ne_of_none hz Gb
                have e2 : z ≠ q := ne_of_none hz Gq
                rw [upd_ne e1, upd_ne e2]; exact J1.ex z o hz
              · have hz' : z ∈ Fa ∨ z ∈ Fb := by simpa using hz
                rw [upd_ne (ne z hz'), upd_ne (live z (by rcases hz' with h | h <;> simp [h]))]
              · rw [upd_ne hpb, upd_ne hpq]; exact h6
              · refine g4 _ _ [bb] (fun e u Fe s r => RO.mono (Same.refl _) _ _ _ _ (fun z hz => ?_) r) ⟨bb, ys ++ [vm], [], rfl, upd_same, rfl, ROs.of_F (g8.append ⟨vm, [], rfl, m2, rfl⟩)⟩
                have := s z hz
                rw [upd_ne (ne2 z this), upd_ne (live z (by rcases List.mem_append.mp this with h | h <;> simp [h]))]
              · by_cases e1 : z = bb
                · subst e1; rw [upd_same] at hz1; cases hz1; exact absurd trivial hz2
                · rw [upd_ne e1] at hz1
                  by_cases e2 : z = q
                  · subst e2; rw [upd_same] at hz1; cases hz1; exact absurd trivial hz2
                  · rw [upd_ne e2] at hz1; exact J1.tu z o hz1 hz2
            · cases hset
          · rename_i hds
            rw [h7.vnone hds] at hw'; cases hw'
          · cases hset
        · rw [valV_head k xs (hok rfl)] at hw'
          split at hset
          · rename_i ds hds
            obtain ⟨v0, FL, Fd, FR, g1, g2, g3, g4⟩ := h7.zoom hds
            rw [hw'] at g2; cases g2
          · rename_i hds
            cases hset
            have hqp : q ≠ p := fun z => hpq z.symm
            have g5' : upd (upd H2 q (.lst [])) p (.dK (putK (xs.map fun p => (p.1.headD (.inl 0), p.2)) k (.ref q))) q = some (.lst []) := by rw [upd_ne hqp, upd_same]
            refine ⟨.inl ⟨rfl, [], SqL.of g5'⟩, vm, m1, q, [], vm, rfl, rfl, g5', by show 0 < sizeLine; decide, post _ _ ?_⟩
            have Gp : G p = none := fr p (by simp)
            have n1' : ∀ z, z ∈ Fa ∨ z ∈ Fb → z ≠ p ∧ z ≠ q := fun z hz => ⟨fun e => by
              subst e
              rcases hz with hz | hz
              · exact n4 z hz z (.inl rfl) rfl
              · exact n6 z (.inr (.inl rfl)) z hz rfl, live z (by rcases hz with h | h <;> simp [h])⟩
            have hpk : putK xs [k] (.ref q) = xs ++ [([k], .ref q)] := putK_new _ hw'
            refine ⟨G, Fa ++ (p :: (F' ++ [q])) ++ Fb, [], J1.ex0, fun z o hz => ?_, h5 G _ (2, .dct false (kvs ++ [([k], .lst [dv])])) (p :: (F' ++ [q])) (Same.refl _) (fun z hz => ?_) ⟨p, xs ++ [([k], .ref q)], F' ++ [q], rfl, ?_, ?_, rfl, ?_⟩, rfl, ?_, fun z hz => ?_, fun z o hz1 hz2 => ?_, by rw [List.length_set]; exact J1.ln⟩
            · rw [upd_ne (ne_of_none hz Gq), upd_ne (ne_of_none hz Gp), upd_ne (ne_of_none hz Gq)]; exact J1.ex z o hz
            · have hz' : z ∈ Fa ∨ z ∈ Fb := by simpa using hz
              obtain ⟨e1, e2⟩ := n1' z hz'
              rw [upd_ne e2, upd_ne e1, upd_ne e2]
            · rw [upd_ne hpq, upd_same, ← hpk, ← put_head (hok rfl)]; rfl
            · intro _ r hr
              rcases List.mem_append.mp hr with h | h
              · exact hok rfl r h
              · rw [List.mem_singleton.mp h]; exact ⟨k, rfl⟩
            · refine ROk.snoc ⟨q, [vm], [], rfl, upd_same, rfl, ROs.of_F ⟨vm, [], rfl, m2, rfl⟩⟩ (ROk.imp _ _ _ (fun e u Fe s r => RO.mono (Same.refl _) _ _ _ _ (fun z hz => ?_) r) h7)
              have hzF := s z hz
              have e1 : z ≠ p := fun e => n2 (e ▸ hzF)
              have e2 : z ≠ q := live z (by simp [hzF])
              rw [upd_ne e2, upd_ne e1, upd_ne e2]
            · have lq : ∀ z, z ∈ Fa ∨ z = p ∨ z ∈ F' ∨ z ∈ Fb → z ≠ q := fun z hz => live z (by rcases hz with h | h | h | h <;> simp [h])
              simp only [List.nodup_append, List.mem_append, List.nodup_cons, List.mem_cons, List.cons_append, List.append_nil, List.not_mem_nil, or_false, List.nodup_nil, and_true]
              refine ⟨⟨n1, ⟨fun z => ?_, n3, by simp, fun z hz y hy e => ?_⟩, fun z hz y hy e => ?_⟩, n5, fun z hz y hy e => ?_⟩
              · rcases z with z | z
                · exact n2 z
                · exact hpq z
              · subst hy e; exact lq _ (.inr (.inr (.inl hz))) rfl
              · subst e
                rcases hy with hy | hy | hy
                · exact n4 z hz z (.inl hy) rfl
                · exact n4 z hz z (.inr hy) rfl
                · exact lq z (.inl hz) hy
              · subst e
                rcases hz with hz | hz | hz | hz
                · exact n6 z (.inl hz) z hy rfl
                · exact n6 z (.inr (.inl hz)) z hy rfl
                · exact n6 z (.inr (.inr hz)) z hy rfl
                · exact lq z (.inr (.inr (.inr hy))) hz
            · simp only [List.mem_append, List.mem_cons, List.append_nil, List.cons_append, List.not_mem_nil, or_false] at hz
              rcases hz with (hz | hz | hz | hz) | hz
              · exact fr z (.inl (.inl hz))
              · exact fr z (.inl (.inr (.inl hz)))
              · exact fr z (.inl (.inr (.inr hz)))
              · subst hz; exact Gq
              · exact fr z (.inr hz)
            · by_cases e1 : z = q
              · subst e1; rw [upd_same] at hz1; cases hz1; exact absurd trivial hz2
              · rw [upd_ne e1] at hz1
                by_cases e2 : z = p
                · subst e2; rw [upd_same] at hz1; cases hz1; exact absurd trivial hz2
                · rw [upd_ne e2, upd_ne e1] at hz1; exact J1.tu z o hz1 hz2
          · cases hset
      · cases hset
    · cases hf3
  · cases hf
end
end Pv
set_option Elab.async false
set_option linter.all false
set_option maxRecDepth 100000
/-! P18: walks of lists and tuples alike, tests, names of the module, defs as data -/
namespace Pv
open PySem PySem.Spec PyProof.Rows L2
theorem PI.or {X : Cx} {tg e : Expr} {t t' : L2.TI} (h : PI X tg e t) (h' : PI X tg e t') : PI X tg e fun σ H R => t σ H R ∨ t' σ H R := ⟨fun pins s σ H R I q => q.elim (h.run pins s σ H R I) (h'.run pins s σ H R I)⟩
section
variable {X : Cx} {K : PySem.W.Frag} {G0 G G1 G' H H' : Hp} {σ : L2.St} {ρ : Env} {ws : List (V × Arg)} {F F1 F2 : List Addr} {e a b c tg : Expr} {es : List Expr} {pos : Pos} {A B C : Fe}
/-- a list or tuple, a value -/
def iSeq (A : Fe) : Fit := fun ρ => (A ρ).bind fun a => match a with
  | .v _ d => (seqD d).map (·.2)
  | .r _ => none
theorem i_seq (h : OkE X e A) : OkI X tg e (iSeq A) := PI.imp (PI.or (pi_list h) (pi_tup h)) fun σ H R ⟨G0, ρ, ds, I, hf, q⟩ => by
  obtain ⟨a, ha, hf1⟩ := Option.bind_eq_some_iff.mp hf
  cases a with
  | r j => cases hf1
  | v k d =>
    obtain ⟨⟨b, ds'⟩, hs, rfl⟩ := Option.map_eq_some_iff.mp hf1
    have key : ∀ (v : V) (H1 : Hp), SI X.K G0 σ ρ ((v, .v k d) :: []) H1 → ∃ G1 F1 F2 p xs, Si X.K G0 σ ρ [] H1 G1 F1 F2 ∧ v = .ref p ∧ Sq X.K G1 b p xs ∧ RepFs X.K G1 ds' xs := fun v H1 I1 => by
      obtain ⟨G, F1, F2, J⟩ := I1
      obtain ⟨G1, F2', J1, e1, r1⟩ := J.freeze
      obtain ⟨p, xs, rfl, h1, h2⟩ := seqD_rep hs r1
      exact ⟨G1, F1, F2', p, xs, J1, rfl, h1, h2⟩
    cases b with
    | true =>
      refine .inl ⟨G0, ρ, [], _, I, ha, fun v H1 I1 => ?_⟩
      obtain ⟨G1, F1, F2, p, xs, J, rfl, h1, h2⟩ := key v H1 I1
      refine ⟨p, rfl, ⟨xs, same_l J.ex h1⟩, q _ H1 G1 J.ex0 J.up ?_⟩
      exact ⟨fun i G H hi ⟨e1, e2⟩ => ⟨xs, xs[i]'(by rw [h2.len]; exact hi), same_l e2 (same_l e1 h1), by simp [h2.len, hi]⟩, fun G H ⟨e1, e2⟩ => ⟨xs, same_l e2 (same_l e1 h1), by rw [h2.len]; exact Nat.le_refl _⟩, fun i G H x H' hi ⟨e1, e2⟩ ⟨hy, hx⟩ => by
        subst hy
        obtain ⟨z, q1, q2⟩ := (RepFs.mono e1 _ _ h2).get (List.getElem?_eq_getElem hi)
        have := hx xs (same_l e2 (same_l e1 h1))
        rw [q1] at this
        cases this
        exact ⟨G, ds'[i], Grow.refl e2, List.getElem?_eq_getElem hi, q2⟩⟩
    | false =>
      refine .inr ⟨G0, ρ, [], _, I, ha, fun v H1 I1 => ?_⟩
      obtain ⟨G1, F1, F2, p, xs, J, rfl, h1, h2⟩ := key v H1 I1
      exact ⟨p, rfl, ⟨xs, same_t J.ex h1⟩, q _ H1 G1 J.ex0 J.up (Items.tupF h1 h2)⟩
theorem c_seq (h : OkE X e A) : OkIc X tg e (iSeq A) := PI.imp (PI.or (pi_list h) (pi_tup h)) fun σ H R ⟨G0, ρ, ws, ds, I, hf, q⟩ => by
  obtain ⟨a, ha, hf1⟩ := Option.bind_eq_some_iff.mp hf
  cases a with
  | r j => cases hf1
  | v k d =>
    obtain ⟨⟨b, ds'⟩, hs, rfl⟩ := Option.map_eq_some_iff.mp hf1
    have key : ∀ (v : V) (H1 : Hp), SI X.K G0 σ ρ ((v, .v k d) :: ws) H1 → ∃ G1 F1 F2 p xs, Si X.K G0 σ ρ ws H1 G1 F1 F2 ∧ v = .ref p ∧ Sq X.K G1 b p xs ∧ RepFs X.K G1 ds' xs := fun v H1 I1 => by
      obtain ⟨G, F1, F2, J⟩ := I1
      obtain ⟨G1, F2', J1, e1, r1⟩ := J.freeze
      obtain ⟨p, xs, rfl, h1, h2⟩ := seqD_rep hs r1
      exact ⟨G1, F1, F2', p, xs, J1, rfl, h1, h2⟩
    cases b with
    | true =>
      refine .inl ⟨G0, ρ, ws, _, I, ha, fun v H1 I1 => ?_⟩
      obtain ⟨G1, F1, F2, p, xs, J, rfl, h1, h2⟩ := key v H1 I1
      refine ⟨p, rfl, ⟨xs, same_l J.ex h1⟩, q _ H1 G1 J.ex0 J.up (Items.toC ?_)⟩
      exact ⟨fun i G H hi ⟨e1, e2⟩ => ⟨xs, xs[i]'(by rw [h2.len]; exact hi), same_l e2 (same_l e1 h1), by simp [h2.len, hi]⟩, fun G H ⟨e1, e2⟩ => ⟨xs, same_l e2 (same_l e1 h1), by rw [h2.len]; exact Nat.le_refl _⟩, fun i G H x H' hi ⟨e1, e2⟩ ⟨hy, hx⟩ => by
        subst hy
        obtain ⟨z, q1, q2⟩ := (RepFs.mono e1 _ _ h2).get (List.getElem?_eq_getElem hi)
        have := hx xs (same_l e2 (same_l e1 h1))
        rw [q1] at this
        cases this
        exact ⟨G, ds'[i], Grow.refl e2, List.getElem?_eq_getElem hi, q2⟩⟩
    | false =>
      refine .inr ⟨G0, ρ, ws, _, I, ha, fun v H1 I1 => ?_⟩
      obtain ⟨G1, F1, F2, p, xs, J, rfl, h1, h2⟩ := key v H1 I1
      exact ⟨p, rfl, ⟨xs, same_t J.ex h1⟩, q _ H1 G1 J.ex0 J.up (Items.tupF h1 h2).toC⟩
/-! ### tests -/
theorem t_din (hu : X.A.units + 1 < cLine) (ha : OkE X a A) (hb : OkE X b B) (hm : behindInMarks .In b = false := by rfl) : OkT X (.Compare a [.In] [b] pos) (bVal (pOp2 (gDIn false) A B)) := PT.imp (pt_cmp (pc_din hu ha hb) hm) (bVal_imp (op2_imp g_din))
theorem t_dnotin (hu : X.A.units + 1 < cLine) (ha : OkE X a A) (hb : OkE X b B) (hm : behindInMarks .NotIn b = false := by rfl) : OkT X (.Compare a [.NotIn] [b] pos) (bVal (pOp2 (gDIn true) A B)) := PT.imp (pt_cmp (pc_dnotin hu ha hb) hm) (bVal_imp (op2_imp g_dnotin))
theorem gkin_op {d : Addr} {kc : List (Str × D)} (hz : ∀ z, match kget kc z with
    | none => PySem.W.nsIn K d z = some none
    | some v => ∃ u x, PySem.W.nsIn K d z = some (some u) ∧ RelV x u ∧ ∀ G, RepF K G v x) : Op1 K (fun y H Q => ∃ (z : Str) (r : Option Value), y = .str z ∧ V.ref d = .ref d ∧ PySem.W.nsIn K d z = some r ∧ Q (.bl r.isSome) H) (gKIn false kc) := by
  intro G H u y Fu w e ru hw
  unfold gKIn at hw
  split at hw
  · rename_i z
    cases hw
    obtain rfl := ru.str
    obtain ⟨r, h1, h2⟩ := kin_core (hz z)
    exact Res.pure (v := .bl r.isSome) e (by show V.bl _ = V.bl _; rw [h2, Bool.false_bne]) fun Q q => ⟨z, r, rfl, rfl, h1, q⟩
  · cases hw
theorem t_kin {x : Str} {p : Pos} {kc : List (Str × D)} (k : KD X x kc) (hg : Gl X x) (ha : OkE X a A) (hdb : (x == ("__debug__" : Str)) = false := by decide) (hm : behindInMarks .In (.Name x p) = false := by rfl) : OkT X (.Compare a [.In] [.Name x p] pos) (bVal (pOp1 (gKIn false kc) A)) := by
  obtain ⟨d, es, n, hm', hk, hz⟩ := k.ex
  exact PT.imp (pt_cmpR (op_in_kd hk) ha (pe_glob (v := .ref d) hg hm' rfl hdb) hm) (bVal_imp fun σ H Q h => op1_imp (gkin_op hz) σ H Q h)
/-! ### a name of the module: an int, a text -/
theorem e_gint {x : Str} {i : Int} (hg : Gl X x) (hm : ∃ t, X.mg x = some (.int i t)) (hd : (x == ("__debug__" : Str)) = false := by decide) : OkE X (.Name x pos) (pC (.int i)) := by
  obtain ⟨t, hm⟩ := hm
  exact e_const (pe_glob (v := .int i) hg hm ⟨t, rfl⟩ hd) fun _ => rfl
end
/-! ### defs as data -/
/-- a def is worth what its body gives -/
def mkM (n k : Nat) (bd : Fs) : List D → Option W := fun ds => if ds.length = k then (runB n bd ds).bind fun w => if cleanD w.1 w.2 = true then some w else none else none
structure FnG (P : Program) (w : World) (K : PySem.W.Frag) (mg : Str → Option Value) (base : Heap) (k : Nat) (x : Str) (m : List D → Option W) (dd : List D) : Prop where
  ex : ∃ (f : Addr) (fd : FuncData) (ps : List Str) (dvs : List V) (dus : List Value), FnOk P w K mg base CX0 k f fd ps (spD K m) ∧ mg x = some (.ref f) ∧ PySem.W.keepIn K (.ref f) = true ∧ Binds K fd ps dus ∧ Vals dvs dus ∧ ∀ H, RepFs K H dd dvs
  cl : ∀ ds w, m ds = some w → cleanD w.1 w.2 = true
theorem FnG.d {X : Cx} {k j : Nat} {x : Str} {m : List D → Option W} {dd : List D} (F : FnG X.prog X.w X.K X.mg X.base j x m dd) (h : j ≤ k := by decide) : FnD X k x m dd :=
  let ⟨f, fd, ps, dvs, dus, h1, h2⟩ := F.ex
  ⟨⟨f, fd, ps, dvs, dus, h1.mono h, h2⟩, F.cl⟩
section
variable {P : Program} {w : World} {K : PySem.W.Frag} {mg : Str → Option Value} {base : Heap}
theorem mkM_some {n k : Nat} {bd : Fs} {ds : List D} {u : W} (h : mkM n k bd ds = some u) : ds.length = k ∧ runB n bd ds = some u ∧ cleanD u.1 u.2 = true := by
  unfold mkM at h
  split at h
  · rename_i hl
    obtain ⟨v, hv, h⟩ := Option.bind_eq_some_iff.mp h
    split at h
    · rename_i hc
      cases h
      exact ⟨hl, hv, hc⟩
    · cases h
  · cases h
theorem mkM_cl {n k : Nat} {bd : Fs} : ∀ ds u, mkM n k bd ds = some u → cleanD u.1 u.2 = true := fun ds u h => (mkM_some h).2.2
theorem fnM {x qual : Str} {st : Stmt} {f : Addr} {fd : FuncData} {N ps : List Str} {k : Nat} {bd : Fs} (F : Fun K x qual st f fd) (S : FnScope N ps (defScope st))
    (hb : ∀ (cdv : Value) (A : Around) (outer : List PySem.Env) (s : Shared) (H : Hp), Room k (A.deeper (envOfC qual (defScope st) s.heap.objs.size f cdv)) → OkB (cxOf CX0 P w K mg base N qual (defScope st) f cdv A outer s H E0).nox (defBody st) bd) :
    FnOk P w K mg base CX0 (k + 1) f fd ps (spD K (mkM N.length ps.length bd)) :=
  fnD F S (fun ds u h => (mkM_some h).1) hb fun ds u h => (mkM_some h).2.1
theorem FnG.mk' {x : Str} {f : Addr} {fd : FuncData} {ps : List Str} {k n j : Nat} {bd : Fs} (h : FnOk P w K mg base CX0 k f fd ps (spD K (mkM n j bd))) (hm : mg x = some (.ref f)) (hk : PySem.W.keepIn K (.ref f) = true) (hb : Binds K fd ps []) : FnG P w K mg base k x (mkM n j bd) [] :=
  ⟨⟨f, fd, ps, [], [], h, hm, hk, hb, .nil, fun _ => rfl⟩, mkM_cl⟩
end
end Pv
set_option Elab.async false
set_option linter.all false
set_option maxRecDepth 100000
/-! P19: +=, dicts of the module -/
namespace Pv
open PySem PySem.Spec PyProof.Rows L2
section
variable {K : PySem.W.Frag}
theorem hu65 {A : Around} {k : Nat} (hr : Room k A) : A.units + 65 < cLine := by have := hr.un; omega
def gAddI : W → W → Option W
  | (_, .int i), (_, .int j) => some (0, .int (i + j))
  | _, _ => none
theorem g_addI : Op2 K (ipI fun i j => i + j) gAddI := by
  intro G H u v x y Fu Fv w e ru rv hw
  unfold gAddI at hw; split at hw
  · cases hw
    obtain rfl := ru.int
    obtain rfl := rv.int
    exact Res.pure (v := .int _) e rfl fun Q q => ⟨_, _, rfl, rfl, q⟩
  · cases hw
structure KDG (w : World) (K : PySem.W.Frag) (mg : Str → Option Value) (x : Str) (kc : List (Str × D)) : Prop where
  ex : ∃ d es n, mg x = some (.ref d) ∧ KDict K w d es n ∧ ∀ z, match kget kc z with
    | none => PySem.W.nsIn K d z = some none
    | some v => ∃ u x, PySem.W.nsIn K d z = some (some u) ∧ RelV x u ∧ ∀ G, RepF K G v x
theorem KDG.d {X : Cx} {x : Str} {kc : List (Str × D)} (h : KDG X.w X.K X.mg x kc) : KD X x kc := ⟨h.ex⟩
abbrev KEnt (K : PySem.W.Frag) (e : DictEntry) (p : Str × D) : Prop := (∃ t, e.key = .str p.1 t) ∧ ∃ x, RelV x e.val ∧ ∀ G, RepF K G p.2 x
theorem ns_of : ∀ {es : List DictEntry} {kc : List (Str × D)}, Paired (KEnt K) es kc → ∀ z, (match es.find? (·.key.isStr z) with
    | some e => ∃ v, kget kc z = some v ∧ ∃ x, RelV x e.val ∧ ∀ G, RepF K G v x
    | none => kget kc z = none ∧ es.any (·.refKey) = false)
  | _, _, .nil, z => ⟨rfl, rfl⟩
  | e :: es, p :: kc, .cons ⟨⟨t, h1⟩, h2⟩ r, z => by
    have ih := ns_of r z
    rw [List.find?_cons]
    have hk : e.key.isStr z = decide (p.1 = z) := by
      rw [h1]
      show (p.1 == z) = _
      by_cases q : p.1 = z
      · rw [q]; simp
      · rw [decide_eq_false q]; exact beq_eq_false_iff_ne.mpr q
    rw [hk]
    by_cases q : p.1 = z
    · rw [decide_eq_true q]
      refine ⟨p.2, ?_, h2⟩
      unfold kget
      rw [if_pos q]
    · rw [decide_eq_false q]
      dsimp only
      have hg : kget (p :: kc) z = kget kc z := by
        show (if p.1 = z then some p.2 else kget kc z) = _
        rw [if_neg q]
      rw [hg, List.any_cons]
      have hr : e.refKey = false := by unfold DictEntry.refKey; rw [h1]
      rw [hr, Bool.false_or]
      exact ih
theorem KDG.mk' {w : World} {mg : Str → Option Value} {x : Str} {kc : List (Str × D)} {d : Addr} {es : Array DictEntry} {n : Nat} (hm : mg x = some (.ref d)) (lk : K.lookup d = some ⟨.type "dict", none, .dict es n, #[]⟩) (lit : PySem.W.KeysLit w.params es.toList) (lo : (d == sysModules) = false)
    (hp : Paired (KEnt K) es.toList kc) : KDG w K mg x kc := by
  refine ⟨d, es, n, hm, ⟨lk, lit, lo⟩, fun z => ?_⟩
  have := ns_of hp z
  unfold PySem.W.nsIn
  rw [lk]
  dsimp only
  split at this
  · rename_i e he
    obtain ⟨v, h1, y, h2, h3⟩ := this
    rw [h1, he]
    exact ⟨e.val, y, rfl, h2, h3⟩
  · rename_i he
    rw [this.1, he]
    dsimp only
    rw [this.2]
    rfl
end
end Pv
set_option Elab.async false
set_option linter.all false
set_option maxRecDepth 100000
/-! P20: y = x where x is not read again: what x owns goes over to y -/
namespace Pv
open PySem PySem.Spec PyProof.Rows L2
section
variable {X : Cx} {K : PySem.W.Frag} {G0 G G1 G' H H' : Hp} {σ : L2.St} {ρ : Env} {ws : List (V × Arg)} {F F1 F2 : List Addr} {pos : Pos}
theorem Si.take {i : Nat} {w : W} (I : Si K G0 σ ρ [] H G F1 F2) (h : ρ[i]? = some (some w)) : ∃ v F3 F4, σ[i]? = some (some v) ∧ Si K G0 σ (ρ.set i none) [(v, .v w.1 w.2)] H G F3 F4 := by
  have hi : i < ρ.length := (List.getElem?_eq_some_iff.mp h).1
  obtain ⟨Fa, Fi, Fb, e1, e2, _, e3⟩ := RSl.zoom σ ρ F1 i I.sl hi (by rw [I.ln]; exact hi)
  obtain ⟨v, h1, h2⟩ := e2 w h
  have := e3 G H (some v) none [] (Same.refl _) (fun _ _ => rfl) (fun w e => by cases e) (fun _ => rfl)
  have hs : σ.set i (some v) = σ := by
    obtain ⟨hlt, e⟩ := List.getElem?_eq_some_iff.mp h1
    rw [← e, List.set_getElem_self]
  rw [hs] at this
  have e4 : F2 = [] := I.wv
  subst e4 e1
  have nd := I.nd
  have fr := I.fr
  simp only [List.nodup_append, List.mem_append, List.append_nil] at nd fr
  refine ⟨v, Fa ++ [] ++ Fb, Fi, h1, I.ex0, I.ex, this, ⟨Fi, [], by simp, h2, rfl⟩, ?_, fun b hb => fr b ?_, I.tu, by rw [List.length_set]; exact I.ln⟩
  · simp only [List.nodup_append, List.mem_append, List.append_nil]
    refine ⟨⟨nd.1.1, nd.2.1, fun p hp q hq => nd.2.2 p (.inl hp) q hq⟩, nd.1.2.1, fun p hp q hq e => ?_⟩
    rcases hp with hp | hp
    · exact nd.1.2.2 p hp q hq e
    · exact nd.2.2 q (.inr hq) p hp e.symm
  · simp only [List.mem_append, List.append_nil] at hb
    rcases hb with (hb | hb) | hb
    · exact .inl (.inl hb)
    · exact .inr hb
    · exact .inl (.inr hb)
def sMv (i j : Nat) : Fs := fun ρ => ((ρ[i]?).join).bind fun w => if j < ρ.length then some (.nx, (ρ.set i none).set j (some w)) else none
theorem s_mv {i j : Nat} {x y : Str} {p py : Pos} (hN : X.N.Nodup) (hi : X.N[i]? = some x := by rfl) (hj : X.N[j]? = some y := by rfl) (hv : Vis X.env.scope x := by first | exact Or.inl rfl | exact Or.inr (Or.inl rfl) | exact Or.inr (Or.inr rfl)) (hd : (x == ("__debug__" : Str)) = false := by decide) (hcd : (x == ("__classdict__" : Str)) = false := by decide)
    (hx : Loc X.env.scope y := by first | exact Or.inl rfl | exact Or.inr rfl) (hs : swapsWith (.Name x p) (some (.Name y py)) pos.line X.env = pure false := by rfl)
    (hf : X.fn y = true ∨ X.env.scope.names.lookup y = some .local := by first | exact .inl rfl | exact .inr rfl) : OkS X (.Assign [.Name y py] (.Name x p) pos) (sMv i j) :=
  PS.imp (ps_set hN hj hx (pe_var hi hv hd hcd) hs hf) fun D σ H ⟨G0, ρ, fl, ρ', I, hf, post⟩ => by
  obtain ⟨w, hw, hf1⟩ := Option.bind_eq_some_iff.mp hf
  clear hf
  split at hf1
  · rename_i hlt
    cases hf1
    obtain ⟨G, F1, F2, J⟩ := I
    obtain ⟨v, F3, F4, h1, J1⟩ := J.take (join_some hw)
    exact ⟨v, h1, post _ _ (J1.SI.store (by rw [List.length_set]; exact hlt))⟩
  · cases hf1
end
end Pv
set_option Elab.async false
set_option linter.all false
set_option maxRecDepth 100000
/-! P21: how the data run: one lemma for each form, for simp -/
namespace Pv
open PySem
section
variable {ρ : Env} {A B C : Fe} {T U : Fb} {f g : Fs} {i j n k : Nat} {d : D} {w u v : W}
/-- what is behind a statement -/
def thenS : Option (Fl × Env) → Fs → Option (Fl × Env)
  | some (.nx, ρ), g => g ρ
  | some p, _ => some p
  | none, _ => none
theorem r_seq : bSeq f g ρ = thenS (f ρ) g := by
  unfold bSeq thenS
  rcases f ρ with _ | ⟨fl, ρ'⟩
  · rfl
  · cases fl <;> rfl
theorem r_seq_nx : thenS (some (.nx, ρ)) g = g ρ := rfl
theorem r_seq_rt : thenS (some (.rt w, ρ)) g = some (.rt w, ρ) := rfl
theorem r_seq_bk : thenS (some (.bk, ρ)) g = some (.bk, ρ) := rfl
theorem r_seq_ct : thenS (some (.ct, ρ)) g = some (.ct, ρ) := rfl
theorem r_nil : bNil ρ = some (.nx, ρ) := rfl
def iteR : Option Bool → Fs → Fs → Env → Option (Fl × Env)
  | some true, f, _, ρ => f ρ
  | some false, _, g, ρ => g ρ
  | none, _, _, _ => none
theorem r_if : sIf T f g ρ = iteR (T ρ) f g ρ := by
  unfold sIf iteR
  rcases T ρ with _ | b
  · rfl
  · cases b <;> rfl
theorem r_if_t : iteR (some true) f g ρ = f ρ := rfl
theorem r_if_f : iteR (some false) f g ρ = g ρ := rfl
def asgR (i : Nat) : Option Arg → Env → Option (Fl × Env)
  | some (.v k d), ρ => if i < ρ.length then some (.nx, ρ.set i (some (k, d))) else none
  | _, _ => none
theorem r_asg : sAsg i A ρ = asgR i (A ρ) ρ := by
  unfold sAsg asgR putArg
  rcases A ρ with _ | a
  · rfl
  · cases a with
    | v k d =>
      dsimp only [Option.bind_some]
      by_cases h : i < ρ.length
      · simp [h]
      · simp [h]
    | r j => rfl
theorem r_asg_v {k : Nat} : asgR i (some (.v k d)) ρ = if i < ρ.length then some (.nx, ρ.set i (some (k, d))) else none := rfl
/-! values -/
def argR : Option W → Option Arg
  | some w => some (.v w.1 w.2)
  | none => none
theorem r_arg : argR (some w) = some (.v w.1 w.2) := rfl
theorem r_c : pC d ρ = some (.v 0 d) := rfl
def pvR : Option W → Option Arg
  | some (0, d) => some (.v 0 d)
  | some (_ + 1, d) => if isBox d then none else some (.v 0 d)
  | none => none
theorem r_var : pVar i ρ = pvR (ρ[i]?.join) := by
  unfold pVar pvR
  rcases ρ[i]?.join with _ | ⟨k, d⟩
  · rfl
  · cases k with
    | zero => rfl
    | succ k => simp
theorem r_var_0 : pvR (some (0, d)) = some (.v 0 d) := rfl
theorem r_var_s : pvR (some (k + 1, d)) = if isBox d then none else some (.v 0 d) := rfl
def bvR (i : Nat) : Option W → Option Arg
  | some _ => some (.r i)
  | none => none
theorem r_bv : pBv i ρ = bvR i (ρ[i]?.join) := by
  unfold pBv bvR
  rcases ρ[i]?.join with _ | w <;> rfl
theorem r_bv_s : bvR i (some w) = some (.r i) := rfl
def pvV : Option W → Option W
  | some (0, d) => some (0, d)
  | some (_ + 1, d) => if isBox d then none else some (0, d)
  | none => none
theorem v_c : val (pC d) ρ = some (0, d) := rfl
theorem v_bv : val (pBv i) ρ = ρ[i]?.join := by
  unfold val
  rw [r_bv]
  rcases h : ρ[i]?.join with _ | w
  · rfl
  · show ρ[i]?.join = some w
    exact h
theorem v_var : val (pVar i) ρ = pvV (ρ[i]?.join) := by
  unfold val
  rw [r_var]
  rcases h : ρ[i]?.join with _ | ⟨k, d⟩
  · rfl
  · cases k with
    | zero => rfl
    | succ k =>
      show (if isBox d = true then none else some (Arg.v 0 d)).bind (Arg.get ρ) = if isBox d = true then none else some (0, d)
      cases isBox d <;> rfl
theorem v_var_0 : pvV (some (0, d)) = some (0, d) := rfl
def g1R (g : W → Option W) : Option W → Option W
  | some u => g u
  | none => none
def g2R (g : W → W → Option W) : Option W → Option W → Option W
  | some u, some v => g u v
  | _, _ => none
theorem g1_s {g : W → Option W} : g1R g (some u) = g u := rfl
theorem g2_s {g : W → W → Option W} : g2R g (some u) (some v) = g u v := rfl
theorem val_arg {x : Option W} {F : Fe} (h : F ρ = argR x) : val F ρ = x := by
  unfold val
  rw [h]
  cases x <;> rfl
theorem r_op1 {g : W → Option W} : pOp1 g A ρ = argR (g1R g (val A ρ)) := by
  unfold pOp1 g1R argR
  rcases val A ρ with _ | u
  · rfl
  · dsimp only [Option.bind_some]
    cases g u <;> rfl
theorem r_op2 {g : W → W → Option W} : pOp2 g A B ρ = argR (g2R g (val A ρ) (val B ρ)) := by
  unfold pOp2 g2R argR
  rcases val A ρ with _ | u
  · rfl
  · dsimp only [Option.bind_some]
    rcases val B ρ with _ | v
    · rfl
    · dsimp only [Option.bind_some]
      cases g u v <;> rfl
theorem v_op1 {g : W → Option W} : val (pOp1 g A) ρ = g1R g (val A ρ) := val_arg r_op1
theorem v_op2 {g : W → W → Option W} : val (pOp2 g A B) ρ = g2R g (val A ρ) (val B ρ) := val_arg r_op2
/-! arguments -/
def valA (A : Fa) (ρ : Env) : Option (List W) := (A ρ).bind (getAll ρ)
def consR : Option W → Option (List W) → Option (List W)
  | some u, some us => some (u :: us)
  | _, _ => none
theorem va_nil : valA aNil ρ = some [] := rfl
theorem va_cons {B : Fa} : valA (aCons A B) ρ = consR (val A ρ) (valA B ρ) := by
  unfold valA aCons val consR
  rcases A ρ with _ | a
  · rfl
  · dsimp only [Option.bind_some]
    rcases B ρ with _ | as
    · dsimp only [Option.map_none, Option.bind_none]
      cases a.get ρ <;> rfl
    · show getAll ρ (a :: as) = _
      unfold getAll
      dsimp only [Option.bind_some]
      cases a.get ρ with
      | none => rfl
      | some w => cases getAll ρ as <;> rfl
theorem consR_s {us : List W} : consR (some u) (some us) = some (u :: us) := rfl
def gNR (g : List W → Option W) : Option (List W) → Option W
  | some us => g us
  | none => none
theorem gN_s {g : List W → Option W} {us : List W} : gNR g (some us) = g us := rfl
theorem on1_s {g : W → Option W} : on1 g [u] = g u := rfl
theorem r_call {g : List W → Option W} {B : Fa} : pCall g B ρ = argR (gNR g (valA B ρ)) := by
  unfold pCall valA gNR argR
  rcases B ρ with _ | as
  · rfl
  · dsimp only [Option.bind_some]
    rcases getAll ρ as with _ | us
    · rfl
    · dsimp only [Option.bind_some]
      cases g us <;> rfl
theorem v_call {g : List W → Option W} {B : Fa} : val (pCall g B) ρ = gNR g (valA B ρ) := val_arg r_call
def fnR (m : List D → Option W) (dd : List D) : Option (List W) → Option W
  | some us => m (us.map (·.2) ++ dd)
  | none => none
theorem fn_s {m : List D → Option W} {dd : List D} {us : List W} : fnR m dd (some us) = m (us.map (·.2) ++ dd) := rfl
theorem r_fn {m : List D → Option W} {dd : List D} {B : Fa} : pFn m dd B ρ = argR (fnR m dd (valA B ρ)) := by
  unfold pFn valA fnR argR
  rcases B ρ with _ | as
  · rfl
  · dsimp only [Option.bind_some]
    rcases getAll ρ as with _ | us
    · rfl
    · dsimp only [Option.bind_some]
      cases m (us.map (·.2) ++ dd) <;> rfl
theorem v_fn {m : List D → Option W} {dd : List D} {B : Fa} : val (pFn m dd B) ρ = fnR m dd (valA B ρ) := val_arg r_fn
/-! displays: their items are values of their own -/
def ownV (A : Fa) (ρ : Env) : Option (List D) := (A ρ).bind ownAll
def ownC : Option Arg → Option (List D) → Option (List D)
  | some (.v _ d), some ds => some (d :: ds)
  | _, _ => none
theorem ow_nil : ownV aNil ρ = some [] := rfl
theorem ow_cons {B : Fa} : ownV (aCons A B) ρ = ownC (A ρ) (ownV B ρ) := by
  unfold ownV aCons ownC
  rcases A ρ with _ | a
  · rfl
  · dsimp only [Option.bind_some]
    rcases B ρ with _ | as
    · cases a <;> rfl
    · cases a with
      | v k d =>
        show (ownAll as).map _ = _
        dsimp only [Option.bind_some]
        cases ownAll as <;> rfl
      | r j => rfl
theorem ownC_s {ds : List D} : ownC (some (.v k d)) (some ds) = some (d :: ds) := rfl
theorem own_len : ∀ {as : List Arg} {ds : List D}, ownAll as = some ds → as.length = ds.length
  | [], _, h => by cases h; rfl
  | .v k d :: as, _, h => by
    obtain ⟨ds, hd, rfl⟩ := Option.map_eq_some_iff.mp h
    rw [List.length_cons, List.length_cons, own_len hd]
  | .r _ :: _, _, h => by cases h
def dispR (k : Nat) (c : List D → D) : Option (List D) → Option W
  | some ds => if ds.length ≤ 1000 then some (k, c ds) else none
  | none => none
theorem disp_s {c : List D → D} {ds : List D} : dispR k c (some ds) = if ds.length ≤ 1000 then some (k, c ds) else none := rfl
theorem disp_of {c : List D → D} {B : Fa} : ((B ρ).bind fun as => if as.length ≤ 1000 then (ownAll as).map fun ds => Arg.v k (c ds) else none) = argR (dispR k c (ownV B ρ)) := by
  unfold ownV dispR argR
  rcases B ρ with _ | as
  · rfl
  · dsimp only [Option.bind_some]
    rcases h : ownAll as with _ | ds
    · by_cases hl : as.length ≤ 1000
      · rw [if_pos hl]; rfl
      · rw [if_neg hl]
    · have := own_len h
      by_cases hl : as.length ≤ 1000
      · rw [if_pos hl]
        dsimp only [Option.map_some]
        rw [if_pos (by omega)]
      · rw [if_neg hl]
        dsimp only
        rw [if_neg (by omega)]
theorem r_tup {B : Fa} : pTup B ρ = argR (dispR 0 .tup (ownV B ρ)) := disp_of
theorem r_ktup {B : Fa} : pKTup B ρ = argR (dispR 0 .ktp (ownV B ρ)) := disp_of
theorem r_lst {B : Fa} : pLst B ρ = argR (dispR 1 .lst (ownV B ρ)) := disp_of
theorem v_tup {B : Fa} : val (pTup B) ρ = dispR 0 .tup (ownV B ρ) := val_arg r_tup
theorem v_ktup {B : Fa} : val (pKTup B) ρ = dispR 0 .ktp (ownV B ρ) := val_arg r_ktup
theorem v_lst {B : Fa} : val (pLst B) ρ = dispR 1 .lst (ownV B ρ) := val_arg r_lst
/-! tests -/
def blR : Option W → Option Bool
  | some (_, .bl b) => some b
  | _ => none
theorem t_vl : bVal A ρ = blR (val A ρ) := by
  unfold bVal blR
  rcases val A ρ with _ | ⟨k, d⟩
  · rfl
  · cases d <;> rfl
theorem bl_s {b : Bool} : blR (some (k, .bl b)) = some b := rfl
def notR : Option Bool → Option Bool
  | some b => some (!b)
  | none => none
theorem t_nt : bNot T ρ = notR (T ρ) := by unfold bNot notR; cases T ρ <;> rfl
theorem not_s {b : Bool} : notR (some b) = some (!b) := rfl
def andR : Option Bool → Fb → Env → Option Bool
  | some true, U, ρ => U ρ
  | some false, _, _ => some false
  | none, _, _ => none
def orR : Option Bool → Fb → Env → Option Bool
  | some false, U, ρ => U ρ
  | some true, _, _ => some true
  | none, _, _ => none
theorem t_an : bAnd T U ρ = andR (T ρ) U ρ := by
  unfold bAnd andR
  rcases T ρ with _ | b
  · rfl
  · cases b <;> rfl
theorem t_or : bOr T U ρ = orR (T ρ) U ρ := by
  unfold bOr orR
  rcases T ρ with _ | b
  · rfl
  · cases b <;> rfl
theorem and_t : andR (some true) U ρ = U ρ := rfl
theorem and_f : andR (some false) U ρ = some false := rfl
theorem or_t : orR (some true) U ρ = some true := rfl
theorem or_f : orR (some false) U ρ = U ρ := rfl
def truR : Option W → Option Bool
  | some w => truth w
  | none => none
theorem t_tr : bTru A ρ = truR (val A ρ) := by unfold bTru truR; cases val A ρ <;> rfl
theorem tru_s : truR (some w) = truth w := rfl
def ifR : Option Bool → Fe → Fe → Env → Option Arg
  | some true, A, _, ρ => A ρ
  | some false, _, B, ρ => B ρ
  | none, _, _, _ => none
theorem r_ife : pIf T A B ρ = ifR (T ρ) A B ρ := by
  unfold pIf ifR
  rcases T ρ with _ | b
  · rfl
  · cases b <;> rfl
theorem ife_t : ifR (some true) A B ρ = A ρ := rfl
theorem ife_f : ifR (some false) A B ρ = B ρ := rfl
/-! statements -/
def appR (i : Nat) : Option W → Option Arg → Env → Option (Fl × Env)
  | some (k + 1, .lst ds), some (.v j d), ρ => if lvlOk k j d = true ∧ ds.length < big then some (.nx, ρ.set i (some (k + 1, .lst (ds ++ [d])))) else none
  | _, _, _ => none
theorem r_app : sApp i A ρ = appR i (ρ[i]?.join) (A ρ) ρ := by
  unfold sApp appR
  rcases ρ[i]?.join with _ | ⟨k, d⟩
  · rfl
  · cases k with
    | zero => cases d <;> rfl
    | succ k =>
      cases d <;> first | rfl | skip
      rcases A ρ with _ | a
      · rfl
      · cases a <;> rfl
theorem app_s {ds : List D} : appR i (some (1, .lst ds)) (some (.v j d)) ρ = if ds.length < big then some (.nx, ρ.set i (some (1, .lst (ds ++ [d])))) else none := by
  unfold appR lvlOk
  simp
def augR (i : Nat) (g : W → W → Option W) : Option W → Option W → Env → Option (Fl × Env)
  | some u, some v, ρ => (match g u v with | some w => if i < ρ.length then some (.nx, ρ.set i (some w)) else none | none => none)
  | _, _, _ => none
theorem r_aug {g : W → W → Option W} : sAug i g A ρ = augR i g (ρ[i]?.join) (val A ρ) ρ := by
  unfold sAug augR
  rcases ρ[i]?.join with _ | u
  · rfl
  · dsimp only [Option.bind_some]
    rcases val A ρ with _ | v
    · rfl
    · dsimp only [Option.bind_some]
      cases g u v <;> rfl
theorem aug_s {m n : Int} {k l : Nat} : augR i gAddI (some (k, .int m)) (some (l, .int n)) ρ = if i < ρ.length then some (.nx, ρ.set i (some (0, .int (m + n)))) else none := rfl
def retB : Option W → Env → Option (Fl × Env)
  | some w, ρ => some (.rt w, ρ)
  | none, _ => none
def retR : Option Arg → Env → Option (Fl × Env)
  | some (.v k d), ρ => some (.rt (k, d), ρ)
  | some (.r i), ρ => retB (ρ[i]?.join) ρ
  | none, _ => none
theorem r_ret : sRet A ρ = retR (A ρ) ρ := by
  unfold sRet retR
  rcases A ρ with _ | a
  · rfl
  · cases a with
    | v k d => rfl
    | r i =>
      show ((ρ[i]?).join).map _ = retB _ _
      unfold retB
      cases ρ[i]?.join <;> rfl
theorem ret_v : retR (some (.v k d)) ρ = some (.rt (k, d), ρ) := rfl
theorem ret_r : retR (some (.r i)) ρ = retB (ρ[i]?.join) ρ := rfl
theorem retB_s : retB (some w) ρ = some (.rt w, ρ) := rfl
def parR (is : List Nat) : Option (List Arg) → Env → Option (Fl × Env)
  | some as, ρ => (match putAll is as ρ with | some ρ' => some (.nx, ρ') | none => none)
  | none, _ => none
theorem r_par {is : List Nat} {B : Fa} : sPar is B ρ = parR is (B ρ) ρ := by
  unfold sPar parR
  rcases B ρ with _ | as
  · rfl
  · dsimp only [Option.bind_some]
    cases putAll is as ρ <;> rfl
def cR : Option Arg → Option (List Arg) → Option (List Arg)
  | some a, some as => some (a :: as)
  | _, _ => none
theorem a_nl : aNil ρ = some [] := rfl
theorem a_cn {B : Fa} : aCons A B ρ = cR (A ρ) (B ρ) := by
  unfold aCons cR
  rcases A ρ with _ | a
  · rfl
  · dsimp only [Option.bind_some]
    cases B ρ <;> rfl
theorem cR_s {a : Arg} {as : List Arg} : cR (some a) (some as) = some (a :: as) := rfl
theorem par_2 {k1 k2 : Nat} {d1 d2 : D} : parR [i, j] (some [.v k1 d1, .v k2 d2]) ρ = if i < ρ.length ∧ j < ρ.length then some (.nx, (ρ.set i (some (k1, d1))).set j (some (k2, d2))) else none := by
  unfold parR putAll putArg
  by_cases h1 : i < ρ.length
  · by_cases h2 : j < ρ.length
    · simp [h1, h2, putAll, putArg]
    · simp [h1, h2, putAll, putArg]
  · simp [h1]
def forR (t : Tg) (f : Fs) : Option (List D) → Env → Option (Fl × Env)
  | some ds, ρ => loopF t f ds ρ
  | none, _ => none
theorem r_for {it : Fit} {t : Tg} : sFor it t f ρ = forR t f (it ρ) ρ := by
  unfold sFor forR
  cases it ρ <;> rfl
theorem for_s {t : Tg} {ds : List D} : forR t f (some ds) ρ = loopF t f ds ρ := rfl
def seqR : Option Arg → Option (List D)
  | some (.v _ d) => (seqD d).map (·.2)
  | _ => none
theorem i_sq : iSeq A ρ = seqR (A ρ) := by
  unfold iSeq seqR
  rcases A ρ with _ | a
  · rfl
  · cases a <;> rfl
theorem seq_s : seqR (some (.v k d)) = (seqD d).map (·.2) := rfl
def rngR : Option W → Option (List D)
  | some (_, .int n) => if -1000000000 ≤ n ∧ n ≤ 1000000000 then some (rngD 0 n.toNat) else none
  | _ => none
theorem i_rg : iRange1 A ρ = rngR (val A ρ) := by
  unfold iRange1 rngR
  rcases val A ρ with _ | ⟨k, d⟩
  · rfl
  · cases d <;> rfl
theorem rng_s {n : Int} : rngR (some (k, .int n)) = if -1000000000 ≤ n ∧ n ≤ 1000000000 then some (rngD 0 n.toNat) else none := rfl
def frzR (i : Nat) (f : Fs) : Option W → Env → Option (Fl × Env)
  | some w, ρ => f (ρ.set i (some (0, w.2)))
  | none, _ => none
theorem r_frz : bFrz i f ρ = frzR i f (ρ[i]?.join) ρ := by
  unfold bFrz frzR
  cases ρ[i]?.join <;> rfl
theorem frz_s : frzR i f (some w) ρ = f (ρ.set i (some (0, w.2))) := rfl
/-! defs -/
def finR : Option (Fl × Env) → Option W
  | some (.rt w, _) => if cleanD w.1 w.2 = true then some w else none
  | some (.nx, _) => some (0, .non)
  | _ => none
theorem r_m {n k : Nat} {bd : Fs} {ds : List D} (h : ds.length = k) : mkM n k bd ds = finR (bd (initE n ds)) := by
  unfold mkM runB
  rw [if_pos h]
  rcases bd (initE n ds) with _ | ⟨fl, ρ⟩
  · rfl
  · cases fl <;> rfl
theorem fin_rt : finR (some (.rt w, ρ)) = if cleanD w.1 w.2 = true then some w else none := rfl
theorem fin_nx : finR (some (.nx, ρ)) = some (0, .non) := rfl
def stepL (t : Tg) (f : Fs) (ds : List D) : Option (Fl × Env) → Option (Fl × Env)
  | some (.nx, ρ) => loopF t f ds ρ
  | some (.ct, ρ) => loopF t f ds ρ
  | some (.bk, ρ) => some (.nx, ρ)
  | some (.rt w, ρ) => some (.rt w, ρ)
  | none => none
theorem l_nil {t : Tg} : loopF t f [] ρ = some (.nx, ρ) := rfl
def bindR (t : Tg) (f : Fs) (ds : List D) : Option Env → Option (Fl × Env)
  | some ρ => stepL t f ds (f ρ)
  | none => none
theorem l_cons {t : Tg} {ds : List D} : loopF t f (d :: ds) ρ = bindR t f ds (bindT t (0, d) ρ) := by
  unfold bindR
  show (bindT t (0, d) ρ).bind _ = _
  rcases bindT t (0, d) ρ with _ | ρ1
  · rfl
  · unfold stepL
    dsimp only [Option.bind_some]
    rcases f ρ1 with _ | ⟨fl, ρ2⟩
    · rfl
    · cases fl <;> rfl
theorem bindR_s {t : Tg} {ds : List D} : bindR t f ds (some ρ) = stepL t f ds (f ρ) := rfl
theorem step_nx {t : Tg} {ds : List D} : stepL t f ds (some (.nx, ρ)) = loopF t f ds ρ := rfl
theorem step_rt {t : Tg} {ds : List D} : stepL t f ds (some (.rt w, ρ)) = some (.rt w, ρ) := rfl
theorem bind_nm : bindT (.nm i) w ρ = if i < ρ.length then some (ρ.set i (some w)) else none := rfl
end
end Pv
set_option Elab.async false
set_option linter.all false
set_option maxRecDepth 100000
/-! P22: how the data run: walks, dicts, comprehensions -/
namespace Pv
open PySem
section
variable {ρ ρ1 : Env} {A B C : Fe} {T U : Fb} {f g : Fs} {i j n k : Nat} {d c : D} {w u v : W} {t : Tg}
def zipQ : Option (Bool × List D) → Option (Bool × List D) → Option (List D)
  | some p, some q => some (zipF p.2 q.2)
  | _, _ => none
def zipR : Option Arg → Option Arg → Option (List D)
  | some (.v _ d), some (.v _ c) => zipQ (seqD d) (seqD c)
  | _, _ => none
theorem i_zp : iZip A B ρ = zipR (A ρ) (B ρ) := by
  unfold iZip
  rw [a_cn, a_cn, a_nl]
  unfold cR zipR
  rcases A ρ with _ | a
  · rfl
  · rcases B ρ with _ | b
    · cases a <;> rfl
    · cases a with
      | r x => rfl
      | v k d =>
        cases b with
        | r y => rfl
        | v j c =>
          show ((seqD d).bind fun p => (seqD c).map fun q => zipF p.2 q.2) = zipQ (seqD d) (seqD c)
          unfold zipQ
          cases seqD d with
          | none => rfl
          | some p => cases seqD c <;> rfl
theorem zip_s : zipR (some (.v j d)) (some (.v k c)) = zipQ (seqD d) (seqD c) := rfl
theorem zipQ_s {p q : Bool × List D} : zipQ (some p) (some q) = some (zipF p.2 q.2) := rfl
def enQ : Option (Bool × List D) → Option (List D)
  | some p => some (enumF 0 p.2)
  | none => none
def enR : Option Arg → Option (List D)
  | some (.v _ d) => enQ (seqD d)
  | _ => none
theorem i_en : iEnum A ρ = enR (A ρ) := by
  unfold iEnum
  rw [a_cn, a_nl]
  unfold cR enR
  rcases A ρ with _ | a
  · rfl
  · cases a with
    | r x => rfl
    | v k d =>
      show ((seqD d).map fun p => enumF 0 p.2) = enQ (seqD d)
      unfold enQ
      cases seqD d <;> rfl
theorem en_s : enR (some (.v j d)) = enQ (seqD d) := rfl
theorem enQ_s {p : Bool × List D} : enQ (some p) = some (enumF 0 p.2) := rfl
/-! dicts, items -/
def putR (i : Nat) : Option Arg → Option W → Option W → Env → Option (Fl × Env)
  | some (.v _ d), some (1, .dct t kvs), some u, ρ => if kvs.length < big then (match keyD t u.2 with | some ks => some (.nx, ρ.set i (some (1, .dct t (putD kvs ks d)))) | none => none) else none
  | _, _, _, _ => none
theorem r_put : sPut i B A ρ = putR i (A ρ) (ρ[i]?.join) (val B ρ) ρ := by
  unfold sPut putR
  rcases A ρ with _ | a
  · rfl
  · cases a with
    | r x => rfl
    | v k d =>
      dsimp only [Option.bind_some]
      rcases ρ[i]?.join with _ | ⟨k2, d2⟩
      · rfl
      · dsimp only [Option.bind_some]
        split
        · rename_i h
          cases h
          rcases val B ρ with _ | u
          · rfl
          · dsimp only [Option.bind_some]
            split
            · rename_i hz
              simp only [hz, if_true]
              cases keyD _ u.2 <;> rfl
            · rename_i hz
              simp only [hz, if_false]
        · rename_i h
          split
          · rename_i h1 h2 h3 h4
            cases h3
            exact absurd rfl (h _ _)
          · rfl
theorem put_s {t : Bool} {kvs : List (List L2.Key × D)} {ks : List L2.Key} {l : Nat} {x : D} (h : keyD t x = some ks) : putR i (some (.v j d)) (some (1, .dct t kvs)) (some (l, x)) ρ = if kvs.length < big then some (.nx, ρ.set i (some (1, .dct t (putD kvs ks d)))) else none := by
  show (if kvs.length < big then (match keyD t x with | some ks => some (Fl.nx, ρ.set i (some (1, .dct t (putD kvs ks d)))) | none => none) else none) = _
  rw [h]
def setR (i : Nat) : Option Arg → Option W → Option W → Env → Option (Fl × Env)
  | some (.v _ d), some (1, .lst ds), some (_, .int n), ρ => (match setAt ds n d with | some ds' => some (.nx, ρ.set i (some (1, .lst ds'))) | none => none)
  | _, _, _, _ => none
theorem r_set {ds : List D} {m : Int} (h1 : A ρ = some (.v j d)) (h2 : ρ[i]?.join = some (1, .lst ds)) (h3 : val B ρ = some (k, .int m)) {ds' : List D} (h4 : setAt ds m d = some ds') : sSet i B A ρ = some (.nx, ρ.set i (some (1, .lst ds'))) := by
  unfold sSet
  rw [h1]
  dsimp only [Option.bind_some]
  rw [h2]
  dsimp only [Option.bind_some]
  rw [h3]
  show Option.map _ (setAt ds m d) = _
  rw [h4]
  rfl
def kg2R (kc : List (Str × D)) : Option W → Option Arg → Option Arg
  | some (_, .str z), some (.v _ d) => some (.v 0 ((kget kc z).getD d))
  | _, _ => none
theorem r_kg2 {kc : List (Str × D)} : pKGet2 kc B C ρ = kg2R kc (val B ρ) (C ρ) := by
  unfold pKGet2 kg2R
  rcases val B ρ with _ | ⟨k, d⟩
  · rfl
  · dsimp only [Option.bind_some]
    rcases C ρ with _ | c
    · cases d <;> rfl
    · cases d <;> cases c <;> rfl
theorem kg2_s {kc : List (Str × D)} {z : Str} : kg2R kc (some (j, .str z)) (some (.v k d)) = some (.v 0 ((kget kc z).getD d)) := rfl
/-! comprehensions -/
theorem compL_of {X : D → D} {p : D → Bool} : ∀ {ds : List D}, (∀ d ∈ ds, ∃ ρ1, bindT t (0, d) ρ = some ρ1 ∧ T ρ1 = some (p d) ∧ (p d = true → ∃ k, A ρ1 = some (.v k (X d)))) → compL t T A 0 ρ ds = some ((ds.filter p).map X)
  | [], _ => rfl
  | d :: ds, h => by
    have ih := compL_of (X := X) (p := p) (ds := ds) fun d' hd => h d' (List.mem_cons_of_mem _ hd)
    obtain ⟨ρ1, h1, h2, h3⟩ := h d List.mem_cons_self
    show ((bindT t (0, d) ρ).bind _) = _
    rw [h1]
    dsimp only [Option.bind_some]
    rw [h2]
    dsimp only [Option.bind_some]
    cases hp : p d with
    | true =>
      obtain ⟨k, h4⟩ := h3 hp
      rw [if_pos rfl, h4]
      dsimp only [Option.bind_some]
      rw [if_pos (by rfl), ih, List.filter_cons_of_pos hp]
      rfl
    | false =>
      rw [if_neg Bool.false_ne_true, ih, List.filter_cons_of_neg (by rw [hp]; exact Bool.false_ne_true)]
theorem r_lc {it : Fit} {vs : List Nat} {ds out : List D} (h0 : (vs.all fun v => lvl0 ρ[v]?) = true) (h1 : it ρ = some ds) (h2 : ds.length ≤ big) (h3 : compL t T A 0 (wipeE ρ vs) ds = some out) : pLc 0 it t vs T A ρ = some (.v 1 (.lst out)) := by
  unfold pLc
  rw [if_pos h0, h1]
  dsimp only [Option.bind_some]
  rw [if_pos h2, h3]
  rfl
theorem v_lc {it : Fit} {vs : List Nat} {ds out : List D} (h0 : (vs.all fun v => lvl0 ρ[v]?) = true) (h1 : it ρ = some ds) (h2 : ds.length ≤ big) (h3 : compL t T A 0 (wipeE ρ vs) ds = some out) : val (pLc 0 it t vs T A) ρ = some (1, .lst out) := by
  unfold val
  rw [r_lc h0 h1 h2 h3]; rfl
def lcI : Option W → Option (List D)
  | some (k, .lst ds) => if k ≤ 1 then some ds else none
  | _ => none
theorem i_lc : iLc A ρ = lcI (val A ρ) := by
  unfold iLc lcI
  rcases val A ρ with _ | ⟨k, d⟩
  · rfl
  · cases d <;> rfl
theorem lcI_s {ds : List D} : lcI (some (k, .lst ds)) = if k ≤ 1 then some ds else none := rfl
/-- the turns that a while takes -/
theorem w_stop {m : Nat} (h : T ρ = some false) : loopW T f (m + 1) ρ = some (.nx, ρ) := by
  show (T ρ).bind _ = _
  rw [h]; rfl
theorem w_go {m : Nat} (h : T ρ = some true) (h2 : f ρ = some (.nx, ρ1)) : loopW T f (m + 1) ρ = loopW T f m ρ1 := by
  show (T ρ).bind _ = _
  rw [h]
  dsimp only [Option.bind_some]
  rw [if_pos rfl, h2]
  rfl
end
end Pv
set_option Elab.async false
set_option linter.all false
set_option maxRecDepth 100000
/-! printed by gen.py: the defs of the law as data, and that they are so -/
namespace K40
open PySem PySem.Spec PyProof.Rows L2 Pv
def topS (i : Nat) : Stmt := PySem.Challenge.pw_tonguesalike_k40_whole_least_sizes.main.body.getD i (.Pass ⟨0, 0, 0, 0⟩)
def k_SHORT : List (Str × D) := [("go", .int 2), ("if", .int 3)]
def k_LONG : List (Str × D) := [("go", .int 5), ("if", .int 6)]
abbrev s_law_mixed : Stmt := topS 11
abbrev s_law_row : Stmt := topS 12
abbrev s_law_deeds : Stmt := topS 15
abbrev s_law_is_int : Stmt := topS 13
abbrev s_law_like : Stmt := topS 14
abbrev s_needed_parts : Stmt := topS 9
abbrev s_law_choices : Stmt := topS 17
abbrev s_law_places : Stmt := topS 16
abbrev s_law_fits : Stmt := topS 18
abbrev s_law_least : Stmt := topS 19
abbrev s_marks_of : Stmt := topS 5
abbrev s_places_of : Stmt := topS 4
abbrev s_far_ones : Stmt := topS 6
abbrev s_least_sizes : Stmt := topS 7
abbrev s_law_right : Stmt := topS 20
abbrev s_law_edges : Stmt := topS 21
abbrev s_linked : Stmt := topS 8
abbrev s_law : Stmt := topS 22
theorem sc_law_mixed : FnScope ["script", "k", "cell", "first", "second", "third"] ["script", "k"] (defScope s_law_mixed) := ⟨rfl, rfl, rfl, by decide +kernel, rfl, by decide +kernel, by decide +kernel⟩
theorem sc_law_row : FnScope ["script", "many", "big", "row", "k"] ["script", "many"] (defScope s_law_row) := ⟨rfl, rfl, rfl, by decide +kernel, rfl, by decide +kernel, by decide +kernel⟩
theorem sc_law_deeds : FnScope ["row", "names", "deeds", "jumps", "k", "cell", "place"] ["row", "names"] (defScope s_law_deeds) := ⟨rfl, rfl, rfl, by decide +kernel, rfl, by decide +kernel, by decide +kernel⟩
theorem sc_law_is_int : FnScope ["value"] ["value"] (defScope s_law_is_int) := ⟨rfl, rfl, rfl, by decide +kernel, rfl, by decide +kernel, by decide +kernel⟩
theorem sc_law_like : FnScope ["value", "due", "k"] ["value", "due"] (defScope s_law_like) := ⟨rfl, rfl, rfl, by decide +kernel, rfl, by decide +kernel, by decide +kernel⟩
theorem sc_needed_parts : FnScope ["parts", "first", "tellers", "at", "part", "name", "found", "todo"] ["parts", "first"] (defScope s_needed_parts) := ⟨rfl, rfl, rfl, by decide +kernel, rfl, by decide +kernel, by decide +kernel⟩
theorem sc_law_choices : FnScope ["deeds", "rows", "deed", "sizes", "grown", "row", "size"] ["deeds"] (defScope s_law_choices) := ⟨rfl, rfl, rfl, by decide +kernel, rfl, by decide +kernel, by decide +kernel⟩
theorem sc_law_places : FnScope ["sizes", "found", "place", "size"] ["sizes"] (defScope s_law_places) := ⟨rfl, rfl, rfl, by decide +kernel, rfl, by decide +kernel, by decide +kernel⟩
theorem sc_law_fits : FnScope ["deeds", "sizes", "places", "k", "far"] ["deeds", "sizes"] (defScope s_law_fits) := ⟨rfl, rfl, rfl, by decide +kernel, rfl, by decide +kernel, by decide +kernel⟩
theorem sc_law_least : FnScope ["deeds", "good", "sizes", "k"] ["deeds"] (defScope s_law_least) := ⟨rfl, rfl, rfl, by decide +kernel, rfl, by decide +kernel, by decide +kernel⟩
theorem sc_marks_of : FnScope ["row", "marks", "at", "deed"] ["row"] (defScope s_marks_of) := ⟨rfl, rfl, rfl, by decide +kernel, rfl, by decide +kernel, by decide +kernel⟩
theorem sc_places_of : FnScope ["row", "sizes", "places", "place", "_", "size"] ["row", "sizes"] (defScope s_places_of) := ⟨rfl, rfl, rfl, by decide +kernel, rfl, by decide +kernel, by decide +kernel⟩
theorem sc_far_ones : FnScope ["row", "sizes", "marks", "places", "found", "at", "deed"] ["row", "sizes", "marks"] (defScope s_far_ones) := ⟨rfl, rfl, rfl, by decide +kernel, rfl, by decide +kernel, by decide +kernel⟩
theorem sc_least_sizes : FnScope ["row", "sizes", "marks", "far", "at", "deed"] ["row"] (defScope s_least_sizes) := ⟨rfl, rfl, rfl, by decide +kernel, rfl, by decide +kernel, by decide +kernel⟩
theorem sc_law_right : FnScope ["deeds", "due", "wide", "sizes"] ["deeds"] (defScope s_law_right) := ⟨rfl, rfl, rfl, by decide +kernel, rfl, by decide +kernel, by decide +kernel⟩
theorem sc_law_edges : FnScope ["row", "cell", "kind", "short", "far", "ahead", "back", "inner", "grown", "last", "first", "due"] ["row"] (defScope s_law_edges) := ⟨rfl, rfl, rfl, by decide +kernel, rfl, by decide +kernel, by decide +kernel⟩
theorem sc_linked : FnScope ["parts", "order", "pairs", "told", "asked", "place", "at", "names", "wanted", "size", "name", "wrong"] ["parts", "order"] (defScope s_linked) := ⟨rfl, rfl, rfl, by decide +kernel, rfl, by decide +kernel, by decide +kernel⟩
theorem sc_law : FnScope ["script", "row", "first", "second", "sizes", "parts", "order", "begins", "wrong"] ["script"] (defScope s_law) := ⟨rfl, rfl, rfl, by decide +kernel, rfl, by decide +kernel, by decide +kernel⟩
def b_law_mixed : Fs := bSeq (sAsg 2 (pC (.int 0))) (bSeq (sIf (bVal (pOp2 (gCmpI fun i j => decide (j < i)) (pCall (on1 gLen) (aCons (pBv 0) aNil)) (pC (.int 0)))) (sAsg 2 (pOp2 gIx (pBv 0) (pOp2 gMod (pBv 1) (pCall (on1 gLen) (aCons (pBv 0) aNil))))) bNil) (bSeq (sAsg 3 (pOp2 gMod (pCall (on1 gInt) (aCons (pOp2 gAdd (pOp2 gAdd (pOp2 gMulI (pBv 2) (pC (.int 48271))) (pOp2 gMulI (pBv 1) (pC (.int 69621)))) (pC (.int 8191))) aNil)) (pC (.int 2147483647)))) (bSeq (sAsg 4 (pOp2 gMod (pCall (on1 gInt) (aCons (pOp2 gAdd (pOp2 gAdd (pOp2 gMulI (pBv 3) (pBv 3)) (pOp2 gFdiv (pBv 3) (pC (.int 7)))) (pOp2 gMulI (pBv 1) (pC (.int 16807)))) aNil)) (pC (.int 2147483629)))) (bSeq (sAsg 5 (pOp2 gMod (pCall (on1 gInt) (aCons (pOp2 gAdd (pOp2 gAdd (pOp2 gMulI (pBv 4) (pBv 4)) (pOp2 gFdiv (pBv 4) (pC (.int 11)))) (pC (.int 40692))) aNil)) (pC (.int 2147483563)))) (sRet (pOp2 gMod (pOp2 gFdiv (pBv 5) (pC (.int 5))) (pC (.int 1000003))))))))
def m_law_mixed : List D → Option W := mkM 6 2 b_law_mixed
def b_law_row : Fs := bSeq (sAsg 2 (pC (.int 0))) (bSeq (sIf (bAnd (bVal (pOp2 (gCmpI fun i j => decide (j < i)) (pCall (on1 gLen) (aCons (pBv 0) aNil)) (pC (.int 0)))) (bVal (pOp2 (gCmpI fun i j => decide (j ≤ i)) (pOp2 gIx (pBv 0) (pC (.int 0))) (pOp2 gPow (pC (.int 10)) (pC (.int 18)))))) (sAsg 2 (pOp2 gIx (pBv 0) (pC (.int 0)))) bNil) (bSeq (sAsg 3 (pLst aNil)) (bSeq (sFor (iRange1 (pBv 1)) (.nm 4) (sIf (bVal (pOp2 (gCmpI fun i j => decide (j < i)) (pBv 2) (pC (.int 0)))) (bSeq (sApp 3 (pOp2 gMod (pCall (on1 gInt) (aCons (pBv 2) aNil)) (pC (.int 1000)))) (sAsg 2 (pOp2 gFdiv (pBv 2) (pC (.int 1000))))) (sApp 3 (pFn m_law_mixed [] (aCons (pBv 0) (aCons (pBv 4) aNil)))))) (sRet (pBv 3)))))
def m_law_row : List D → Option W := mkM 5 2 b_law_row
def b_law_deeds : Fs := bSeq (sPar [2, 3] (aCons (pLst aNil) (aCons (pC (.int 0)) aNil))) (bSeq (sFor (iRange1 (pOp2 gMod (pCall (on1 gInt) (aCons (pOp2 gIx (pBv 0) (pC (.int 0))) aNil)) (pC (.int 8)))) (.nm 4) (bSeq (sAsg 5 (pCall (on1 gInt) (aCons (pOp2 gIx (pBv 0) (pOp2 gAdd (pC (.int 1)) (pBv 4))) aNil))) (sIf (bAnd (bVal (pOp2 (gCmpI fun i j => decide (i < j)) (pOp2 gMod (pBv 5) (pC (.int 5))) (pC (.int 3)))) (bAnd (bVal (pOp2 (gCmpI fun i j => decide (i < j)) (pBv 3) (pC (.int 5)))) (bVal (pOp2 (gCmpI fun i j => decide (j < i)) (pCall (on1 gLen) (aCons (pBv 1) aNil)) (pC (.int 0)))))) (bSeq (sApp 2 (pTup (aCons (pOp2 gIx (pTup (aCons (pC (.str "go")) (aCons (pC (.str "if")) aNil))) (pOp2 gMod (pOp2 gFdiv (pBv 5) (pC (.int 5))) (pC (.int 2)))) (aCons (pOp2 gIx (pBv 1) (pOp2 gMod (pOp2 gFdiv (pBv 5) (pC (.int 10))) (pCall (on1 gLen) (aCons (pBv 1) aNil)))) aNil)))) (sAsg 3 (pOp2 gAdd (pBv 3) (pC (.int 1))))) (sApp 2 (pTup (aCons (pC (.str "do")) (aCons (pOp2 gMod (pOp2 gFdiv (pBv 5) (pC (.int 5))) (pC (.int 13))) aNil))))))) (bSeq (sFor (iRange1 (pCall (on1 gLen) (aCons (pBv 1) aNil))) (.nm 4) (bSeq (sAsg 6 (pOp2 gMod (pCall (on1 gInt) (aCons (pOp2 gIx (pBv 0) (pOp2 gAdd (pC (.int 9)) (pBv 4))) aNil)) (pOp2 gAdd (pCall (on1 gLen) (aCons (pBv 2) aNil)) (pC (.int 1))))) (sAsg 2 (pOp2 gAdd (pOp2 gAdd (pSl (pBv 2) oNone (oSome (pBv 6))) (pLst (aCons (pTup (aCons (pC (.str "mark")) (aCons (pOp2 gIx (pBv 1) (pBv 4)) aNil))) aNil))) (pSl (pBv 2) (oSome (pBv 6)) oNone))))) (sRet (pCall (on1 gKTupOf) (aCons (pBv 2) aNil)))))
def m_law_deeds : List D → Option W := mkM 7 2 b_law_deeds
def b_law_is_int : Fs := sRet (pAnd (pIsi .int (pBv 0)) (pNot (pIsi .bl (pBv 0))))
def m_law_is_int : List D → Option W := mkM 1 1 b_law_is_int
def b_law_like (m : List D → Option W) : Fs := bSeq (sIf (bVal (pOp2 gIsN (pBv 1) (pC .non))) (sRet (pOp2 gIsN (pBv 0) (pC .non))) bNil) (bSeq (sIf (bVal (pIsi .bl (pBv 1))) (sRet (pAnd (pIsi .bl (pBv 0)) (pOp2 gEq (pBv 0) (pBv 1)))) bNil) (bSeq (sIf (bVal (pIsi .tup (pBv 1))) (bSeq (sIf (bOr (bNot (bVal (pIsi .tup (pBv 0)))) (bVal (pOp2 gNe (pCall (on1 gLen) (aCons (pBv 0) aNil)) (pCall (on1 gLen) (aCons (pBv 1) aNil))))) (sRet (pC (.bl false))) bNil) (sRet (pCall (on1 gAll) (aCons (pLc 0 (iRange1 (pCall (on1 gLen) (aCons (pBv 1) aNil))) (.nm 2) [2] bYes (pFn m [] (aCons (pOp2 gIx (pBv 0) (pBv 2)) (aCons (pOp2 gIx (pBv 1) (pBv 2)) aNil)))) aNil)))) bNil) (bSeq (sIf (bVal (pIsi .str (pBv 1))) (sRet (pAnd (pIsi .str (pBv 0)) (pOp2 gEq (pBv 0) (pBv 1)))) bNil) (sRet (pAnd (pFn m_law_is_int [] (aCons (pBv 0) aNil)) (pOp2 gEq (pBv 0) (pBv 1)))))))
def r_law_like : Nat → List D → Option W
  | 0 => fun _ => none
  | n + 1 => mkM 3 2 (b_law_like (r_law_like n))
def m_law_like : List D → Option W := r_law_like 6
def b_needed_parts : Fs := bSeq (sAsg 2 (pDNew 1 false)) (bSeq (sFor (iEnum (pVar 0)) (.tp [.nm 3, .nm 4]) (sFor (iSeq (pOp2 gIx (pBv 4) (pC (.int 0)))) (.nm 5) (sSetApp 2 (pBv 5) 3))) (bFrz 2 (bSeq (sPar [6, 7] (aCons (pDisp1 (pBv 1) (pC (.bl true))) (aCons (pLst (aCons (pVar 1) aNil)) aNil))) (bSeq (sWhile 1000000 (bTru (pBv 7)) (bSeq (sPopIx 7 4 0) (sFor (iSeq (pOp2 gIx (pBv 4) (pC (.int 1)))) (.nm 5) (sFor (iSeq (pGet2 (pBv 2) (pBv 5) (pTup aNil))) (.nm 3) (sIf (bVal (pOp2 (gDIn true) (pBv 3) (pBv 6))) (bSeq (sPut 6 (pBv 3) (pC (.bl true))) (sApp 7 (pVar 3))) bNil))))) (sRet (pCall (on1 gTupOf) (aCons (pSortedD (pBv 6)) aNil)))))))
def m_needed_parts : List D → Option W := mkM 8 2 b_needed_parts
def b_law_choices : Fs := bSeq (sAsg 1 (pLst (aCons (pTup aNil) aNil))) (bSeq (sFor (iSeq (pVar 0)) (.nm 2) (bSeq (sAsg 3 (pLst (aCons (pC (.int 0)) aNil))) (bSeq (sIf (bVal (pOp2 gEq (pOp2 gIx (pBv 2) (pC (.int 0))) (pC (.str "do")))) (sAsg 3 (pLst (aCons (pOp2 gIx (pBv 2) (pC (.int 1))) aNil))) bNil) (bSeq (sIf (bVal (pOp2 (gIn false) (pOp2 gIx (pBv 2) (pC (.int 0))) (pTup (aCons (pC (.str "go")) (aCons (pC (.str "if")) aNil))))) (sAsg 3 (pLst (aCons (pOp2 gAdd (pC (.int 2)) (pCall (on1 gInt) (aCons (pOp2 gEq (pOp2 gIx (pBv 2) (pC (.int 0))) (pC (.str "if"))) aNil))) (aCons (pOp2 gAdd (pC (.int 5)) (pCall (on1 gInt) (aCons (pOp2 gEq (pOp2 gIx (pBv 2) (pC (.int 0))) (pC (.str "if"))) aNil))) aNil)))) bNil) (bSeq (sAsg 4 (pLst aNil)) (bFrz 1 (bSeq (sFor (iSeq (pVar 1)) (.nm 5) (sExt 4 (pLc 0 (iLc (pBv 3)) (.nm 6) [6] bYes (pOp2 gAdd (pBv 5) (pTup (aCons (pVar 6) aNil)))))) (sMv 4 1)))))))) (sRet (pBv 1)))
def m_law_choices : List D → Option W := mkM 7 1 b_law_choices
def b_law_places : Fs := bSeq (sPar [1, 2] (aCons (pLst aNil) (aCons (pC (.int 0)) aNil))) (bSeq (sFor (iSeq (pVar 0)) (.nm 3) (bSeq (sApp 1 (pVar 2)) (sAsg 2 (pOp2 gAdd (pBv 2) (pBv 3))))) (sRet (pBv 1)))
def m_law_places : List D → Option W := mkM 4 1 b_law_places
def b_law_fits : Fs := bSeq (sAsg 2 (pFn m_law_places [] (aCons (pBv 1) aNil))) (bSeq (sFor (iRange1 (pCall (on1 gLen) (aCons (pBv 0) aNil))) (.nm 3) (sIf (bAnd (bVal (pOp2 (gIn false) (pOp2 gIx (pOp2 gIx (pBv 0) (pBv 3)) (pC (.int 0))) (pTup (aCons (pC (.str "go")) (aCons (pC (.str "if")) aNil))))) (bVal (pOp2 (gCmpI fun i j => decide (i < j)) (pOp2 gIx (pBv 1) (pBv 3)) (pC (.int 5))))) (bSeq (sAsg 4 (pOp2 gSub (pOp2 gSub (pOp2 gIx (pBv 2) (pOp2 gTIndex (pBv 0) (pTup (aCons (pC (.str "mark")) (aCons (pOp2 gIx (pOp2 gIx (pBv 0) (pBv 3)) (pC (.int 1))) aNil))))) (pOp2 gIx (pBv 2) (pBv 3))) (pOp2 gIx (pBv 1) (pBv 3)))) (sIf (bNot (bVal (pChain (gCmpI fun i j => decide (i ≤ j)) (gCmpI fun i j => decide (i ≤ j)) (pOp1 gNeg (pC (.int 10))) (pBv 4) (pC (.int 10))))) (sRet (pC (.bl false))) bNil)) bNil)) (sRet (pC (.bl true))))
def m_law_fits : List D → Option W := mkM 5 2 b_law_fits
def b_law_least : Fs := bSeq (sAsg 1 (pLc 0 (iSeq (pFn m_law_choices [] (aCons (pBv 0) aNil))) (.nm 2) [2] (bVal (pFn m_law_fits [] (aCons (pBv 0) (aCons (pBv 2) aNil)))) (pVar 2))) (sRet (pCall (on1 gTupOf) (aCons (pLc 0 (iRange1 (pCall (on1 gLen) (aCons (pBv 0) aNil))) (.nm 3) [3] bYes (pCall (on1 gMin) (aCons (pLc 0 (iLc (pBv 1)) (.nm 2) [2] bYes (pOp2 gIx (pBv 2) (pBv 3))) aNil))) aNil)))
def m_law_least : List D → Option W := mkM 4 1 b_law_least
def b_marks_of : Fs := bSeq (sAsg 1 (pDNew 0 false)) (bSeq (sFor (iEnum (pVar 0)) (.tp [.nm 2, .nm 3]) (sIf (bAnd (bVal (pOp2 gEq (pOp2 gIx (pBv 3) (pC (.int 0))) (pC (.str "mark")))) (bVal (pOp2 (gDIn true) (pOp2 gIx (pBv 3) (pC (.int 1))) (pBv 1)))) (sPut 1 (pOp2 gIx (pBv 3) (pC (.int 1))) (pVar 2)) bNil)) (sRet (pBv 1)))
def m_marks_of : List D → Option W := mkM 4 1 b_marks_of
def b_places_of : Fs := bSeq (sPar [2, 3] (aCons (pLst aNil) (aCons (pC (.int 0)) aNil))) (bSeq (sFor (iZip (pVar 0) (pVar 1)) (.tp [.nm 4, .nm 5]) (bSeq (sApp 2 (pVar 3)) (sAug 3 gAddI (pBv 5)))) (sRet (pCall (on1 gTupOf) (aCons (pBv 2) aNil))))
def m_places_of : List D → Option W := mkM 6 2 b_places_of
def b_far_ones : Fs := bSeq (sAsg 3 (pFn m_places_of [] (aCons (pBv 0) (aCons (pBv 1) aNil)))) (bSeq (sAsg 4 (pLst aNil)) (bSeq (sFor (iEnum (pVar 0)) (.tp [.nm 5, .nm 6]) (sIf (bAnd (bVal (pOp1 (gKIn false k_SHORT) (pOp2 gIx (pBv 6) (pC (.int 0))))) (bVal (pOp2 gEq (pOp2 gIx (pBv 1) (pBv 5)) (pOp1 (gKGet k_SHORT) (pOp2 gIx (pBv 6) (pC (.int 0))))))) (sIf (bVal (pOp2 (gCmpI fun i j => decide (j < i)) (pCall (on1 gAbs) (aCons (pOp2 gSub (pOp2 gSub (pOp2 gIx (pBv 3) (pOp2 gDGet (pBv 2) (pOp2 gIx (pBv 6) (pC (.int 1))))) (pOp2 gIx (pBv 3) (pBv 5))) (pOp2 gIx (pBv 1) (pBv 5))) aNil)) (pC (.int 10)))) (sApp 4 (pVar 5)) bNil) bNil)) (sRet (pBv 4))))
def m_far_ones : List D → Option W := mkM 7 3 b_far_ones
def b_least_sizes : Fs := bSeq (sAsg 1 (pLc 0 (iSeq (pVar 0)) (.nm 5) [5] bYes (pIf (bVal (pOp2 gEq (pOp2 gIx (pBv 5) (pC (.int 0))) (pC (.str "do")))) (pOp2 gIx (pBv 5) (pC (.int 1))) (pKGet2 k_SHORT (pOp2 gIx (pBv 5) (pC (.int 0))) (pC (.int 0)))))) (bSeq (sAsg 2 (pFn m_marks_of [] (aCons (pBv 0) aNil))) (bSeq (sAsg 3 (pFn m_far_ones [] (aCons (pBv 0) (aCons (pBv 1) (aCons (pBv 2) aNil))))) (bSeq (sWhile 1000000 (bTru (pBv 3)) (bFrz 3 (bSeq (sFor (iSeq (pVar 3)) (.nm 4) (sSet 1 (pBv 4) (pOp1 (gKGet k_LONG) (pOp2 gIx (pOp2 gIx (pBv 0) (pBv 4)) (pC (.int 0)))))) (sAsg 3 (pFn m_far_ones [] (aCons (pBv 0) (aCons (pBv 1) (aCons (pBv 2) aNil)))))))) (sRet (pCall (on1 gTupOf) (aCons (pBv 1) aNil))))))
def m_least_sizes : List D → Option W := mkM 6 1 b_least_sizes
def b_law_right : Fs := bSeq (sPar [1, 2] (aCons (pFn m_law_least [] (aCons (pBv 0) aNil)) (aCons (pFn m_law_choices [] (aCons (pBv 0) aNil)) aNil))) (bSeq (sIf (bOr (bNot (bVal (pFn m_law_fits [] (aCons (pBv 0) (aCons (pBv 1) aNil))))) (bNot (bVal (pFn m_law_like [] (aCons (pFn m_least_sizes [] (aCons (pBv 0) aNil)) (aCons (pBv 1) aNil)))))) (sRet (pC (.bl false))) bNil) (bSeq (sFor (iSeq (pTup (aCons (pVar 1) (aCons (pOp2 gIx (pBv 2) (pOp2 gSub (pCall (on1 gLen) (aCons (pBv 2) aNil)) (pC (.int 1)))) (aCons (pOp2 gIx (pBv 2) (pC (.int 0))) aNil))))) (.nm 3) (sIf (bNot (bVal (pFn m_law_like [] (aCons (pFn m_places_of [] (aCons (pBv 0) (aCons (pBv 3) aNil))) (aCons (pCall (on1 gTupOf) (aCons (pFn m_law_places [] (aCons (pBv 3) aNil)) aNil)) aNil))))) (sRet (pC (.bl false))) bNil)) (sRet (pC (.bl true)))))
def m_law_right : List D → Option W := mkM 4 1 b_law_right
def b_law_edges : Fs := bSeq (sPar [1, 2] (aCons (pCall (on1 gInt) (aCons (pOp2 gIx (pBv 0) (pC (.int 0))) aNil)) (aCons (pOp2 gIx (pTup (aCons (pC (.str "go")) (aCons (pC (.str "if")) aNil))) (pOp2 gMod (pCall (on1 gInt) (aCons (pOp2 gIx (pBv 0) (pC (.int 1))) aNil)) (pC (.int 2)))) aNil))) (bSeq (sPar [3, 4] (aCons (pOp2 gAdd (pC (.int 2)) (pCall (on1 gInt) (aCons (pOp2 gEq (pBv 2) (pC (.str "if"))) aNil))) (aCons (pOp2 gAdd (pC (.int 8)) (pOp2 gMod (pBv 1) (pC (.int 5)))) aNil))) (bSeq (sAsg 5 (pTup (aCons (pTup (aCons (pVar 2) (aCons (pC (.str "m")) aNil))) (aCons (pTup (aCons (pC (.str "do")) (aCons (pVar 4) aNil))) (aCons (pTup (aCons (pC (.str "mark")) (aCons (pC (.str "m")) aNil))) (aCons (pTup (aCons (pC (.str "do")) (aCons (pC (.int 3)) aNil))) aNil)))))) (bSeq (sIf (bNot (bVal (pFn m_law_like [] (aCons (pFn m_least_sizes [] (aCons (pBv 5) aNil)) (aCons (pTup (aCons (pOp2 gAdd (pBv 3) (pOp2 gMulI (pC (.int 3)) (pCall (on1 gInt) (aCons (pOp2 (gCmpI fun i j => decide (j < i)) (pBv 4) (pC (.int 10))) aNil)))) (aCons (pVar 4) (aCons (pC (.int 0)) (aCons (pC (.int 3)) aNil))))) aNil))))) (sRet (pC (.bl false))) bNil) (bSeq (sAsg 6 (pTup (aCons (pTup (aCons (pC (.str "mark")) (aCons (pC (.str "m")) aNil))) (aCons (pTup (aCons (pC (.str "do")) (aCons (pOp2 gSub (pBv 4) (pBv 3)) aNil))) (aCons (pTup (aCons (pVar 2) (aCons (pC (.str "m")) aNil))) aNil))))) (bSeq (sIf (bNot (bVal (pFn m_law_like [] (aCons (pFn m_least_sizes [] (aCons (pBv 6) aNil)) (aCons (pTup (aCons (pC (.int 0)) (aCons (pOp2 gSub (pBv 4) (pBv 3)) (aCons (pOp2 gAdd (pBv 3) (pOp2 gMulI (pC (.int 3)) (pCall (on1 gInt) (aCons (pOp2 (gCmpI fun i j => decide (j < i)) (pBv 4) (pC (.int 10))) aNil)))) aNil)))) aNil))))) (sRet (pC (.bl false))) bNil) (bSeq (sAsg 7 (pOp2 gAdd (pC (.int 6)) (pOp2 gMod (pOp2 gFdiv (pBv 1) (pC (.int 5))) (pC (.int 4))))) (bSeq (sAsg 8 (pKTup (aCons (pTup (aCons (pC (.str "go")) (aCons (pC (.str "m")) aNil))) (aCons (pTup (aCons (pC (.str "do")) (aCons (pVar 7) aNil))) (aCons (pTup (aCons (pVar 2) (aCons (pC (.str "k")) aNil))) (aCons (pTup (aCons (pC (.str "mark")) (aCons (pC (.str "m")) aNil))) (aCons (pTup (aCons (pC (.str "do")) (aCons (pOp2 gAdd (pC (.int 5)) (pOp2 gMod (pOp2 gFdiv (pBv 1) (pC (.int 20))) (pC (.int 12)))) aNil))) (aCons (pTup (aCons (pC (.str "mark")) (aCons (pC (.str "k")) aNil))) aNil)))))))) (bSeq (sAsg 9 (pCall (on1 gInt) (aCons (pOp2 (gCmpI fun i j => decide (j < i)) (pOp2 gAdd (pC (.int 5)) (pOp2 gMod (pOp2 gFdiv (pBv 1) (pC (.int 20))) (pC (.int 12)))) (pC (.int 10))) aNil))) (bSeq (sAsg 10 (pCall (on1 gInt) (aCons (pOp2 (gCmpI fun i j => decide (j < i)) (pOp2 gAdd (pOp2 gAdd (pBv 7) (pBv 3)) (pOp2 gMulI (pC (.int 3)) (pBv 9))) (pC (.int 10))) aNil))) (bSeq (sAsg 11 (pTup (aCons (pOp2 gAdd (pC (.int 2)) (pOp2 gMulI (pC (.int 3)) (pBv 10))) (aCons (pVar 7) (aCons (pOp2 gAdd (pBv 3) (pOp2 gMulI (pC (.int 3)) (pBv 9))) (aCons (pC (.int 0)) (aCons (pOp2 gAdd (pC (.int 5)) (pOp2 gMod (pOp2 gFdiv (pBv 1) (pC (.int 20))) (pC (.int 12)))) (aCons (pC (.int 0)) aNil)))))))) (sRet (pAnd (pFn m_law_like [] (aCons (pFn m_least_sizes [] (aCons (pBv 8) aNil)) (aCons (pBv 11) aNil))) (pOp2 gEq (pFn m_law_least [] (aCons (pBv 8) aNil)) (pBv 11))))))))))))))
def m_law_edges : List D → Option W := mkM 12 1 b_law_edges
def b_linked : Fs := bSeq (sPar [2, 3, 4, 5] (aCons (pDNew 0 true) (aCons (pDNew 0 false) (aCons (pDNew 0 false) (aCons (pC (.int 0)) aNil))))) (bSeq (sFor (iSeq (pVar 1)) (.nm 6) (bSeq (sAsgT (.tp [.nm 7, .nm 8, .nm 9]) (pOp2 gIx (pBv 0) (pBv 6))) (bSeq (sFor (iSeq (pVar 7)) (.nm 10) (bSeq (sPut 2 (pTup (aCons (pVar 10) (aCons (pVar 5) aNil))) (pC (.bl true))) (sPut 3 (pBv 10) (pOp2 gAdd (pGet2 (pBv 3) (pBv 10) (pC (.int 0))) (pC (.int 1)))))) (bSeq (sFor (iSeq (pVar 8)) (.nm 10) (sPut 4 (pBv 10) (pC (.bl true)))) (sAug 5 gAddI (pBv 9)))))) (bFrz 4 (bFrz 3 (bSeq (sAsg 11 (pOp2 gAdd (pLcD 3 0 (.nm 10) [10] (bVal (pOp2 (gCmpI fun i j => decide (j < i)) (pOp2 gDGet (pBv 3) (pBv 10)) (pC (.int 1)))) (pVar 10)) (pLcD 4 0 (.nm 10) [10] (bVal (pOp2 (gDIn true) (pBv 10) (pBv 3))) (pVar 10)))) (sRet (pTup (aCons (pCall (on1 gTupOf) (aCons (pSortedD (pBv 2)) aNil)) (aCons (pCall (on1 gTupOf) (aCons (pCall (on1 gSorted) (aCons (pBv 11) aNil)) aNil)) aNil))))))))
def m_linked : List D → Option W := mkM 12 2 b_linked
def b_law : Fs := bSeq (sAsg 1 (pFn m_law_row [] (aCons (pBv 0) (aCons (pC (.int 32)) aNil)))) (bSeq (sAsg 2 (pFn m_law_deeds [] (aCons (pBv 1) (aCons (pSl (pC (.str "mno")) oNone (oSome (pOp2 gMod (pCall (on1 gInt) (aCons (pOp2 gIx (pBv 1) (pC (.int 28))) aNil)) (pC (.int 4))))) aNil)))) (bSeq (sAsg 3 (pFn m_law_deeds [] (aCons (pSl (pBv 1) (oSome (pC (.int 13))) (oSome (pC (.int 26)))) (aCons (pSl (pC (.str "pqr")) oNone (oSome (pOp2 gAdd (pC (.int 1)) (pOp2 gMod (pCall (on1 gInt) (aCons (pOp2 gIx (pBv 1) (pC (.int 29))) aNil)) (pC (.int 3)))))) aNil)))) (bSeq (sIf (bOr (bNot (bVal (pFn m_law_right [] (aCons (pBv 2) aNil)))) (bOr (bNot (bVal (pFn m_law_right [] (aCons (pBv 3) aNil)))) (bNot (bVal (pFn m_law_edges [] (aCons (pSl (pBv 1) (oSome (pC (.int 26))) (oSome (pC (.int 28)))) aNil)))))) (sRet (pC (.bl false))) bNil) (bSeq (sAsg 4 (pLst (aCons (pCall (on1 gSum) (aCons (pFn m_least_sizes [] (aCons (pBv 2) aNil)) aNil)) (aCons (pCall (on1 gSum) (aCons (pFn m_least_sizes [] (aCons (pBv 3) aNil)) aNil)) aNil)))) (bSeq (sAsg 5 (pTup (aCons (pTup (aCons (pTup (aCons (pC (.str "x")) aNil)) (aCons (pTup (aCons (pC (.str "y")) aNil)) (aCons (pOp2 gIx (pBv 4) (pC (.int 0))) aNil)))) (aCons (pTup (aCons (pTup (aCons (pC (.str "y")) (aCons (pC (.str "z")) aNil))) (aCons (pOp2 gIx (pTup (aCons (pTup (aCons (pC (.str "x")) aNil)) (aCons (pTup (aCons (pC (.str "w")) aNil)) (aCons (pTup aNil) aNil)))) (pOp2 gMod (pCall (on1 gInt) (aCons (pOp2 gIx (pBv 1) (pC (.int 30))) aNil)) (pC (.int 3)))) (aCons (pOp2 gIx (pBv 4) (pC (.int 1))) aNil)))) aNil)))) (bSeq (sAsg 6 (pOp2 gIx (pTup (aCons (pTup (aCons (pC (.int 0)) (aCons (pC (.int 1)) aNil))) (aCons (pTup (aCons (pC (.int 1)) (aCons (pC (.int 0)) aNil))) aNil))) (pOp2 gMod (pCall (on1 gInt) (aCons (pOp2 gIx (pBv 1) (pC (.int 31))) aNil)) (pC (.int 2))))) (bSeq (sAsg 7 (pOp2 gIx (pTup (aCons (pTup (aCons (pC (.int 0)) (aCons (pCall (on1 gSum) (aCons (pFn m_law_least [] (aCons (pBv 2) aNil)) aNil)) aNil))) (aCons (pTup (aCons (pCall (on1 gSum) (aCons (pFn m_law_least [] (aCons (pBv 3) aNil)) aNil)) (aCons (pC (.int 0)) aNil))) aNil))) (pOp2 gMod (pCall (on1 gInt) (aCons (pOp2 gIx (pBv 1) (pC (.int 31))) aNil)) (pC (.int 2))))) (bSeq (sAsg 8 (pOp2 gMulT (pTup (aCons (pC (.str "w")) aNil)) (pCall (on1 gInt) (aCons (pOp2 gEq (pOp2 gMod (pCall (on1 gInt) (aCons (pOp2 gIx (pBv 1) (pC (.int 30))) aNil)) (pC (.int 3))) (pC (.int 1))) aNil)))) (bSeq (sIf (bNot (bVal (pFn m_law_like [] (aCons (pFn m_linked [] (aCons (pBv 5) (aCons (pBv 6) aNil))) (aCons (pTup (aCons (pTup (aCons (pTup (aCons (pC (.str "x")) (aCons (pOp2 gIx (pBv 7) (pC (.int 0))) aNil))) (aCons (pTup (aCons (pC (.str "y")) (aCons (pOp2 gIx (pBv 7) (pC (.int 1))) aNil))) (aCons (pTup (aCons (pC (.str "z")) (aCons (pOp2 gIx (pBv 7) (pC (.int 1))) aNil))) aNil)))) (aCons (pVar 8) aNil))) aNil))))) (sRet (pC (.bl false))) bNil) (bSeq (sIf (bNot (bVal (pFn m_law_like [] (aCons (pFn m_needed_parts [] (aCons (pBv 5) (aCons (pC (.int 0)) aNil))) (aCons (pTup (aCons (pC (.int 0)) (aCons (pC (.int 1)) aNil))) aNil))))) (sRet (pC (.bl false))) bNil) (sRet (pFn m_law_like [] (aCons (pFn m_needed_parts [] (aCons (pBv 5) (aCons (pC (.int 1)) aNil))) (aCons (pOp2 gIx (pTup (aCons (pTup (aCons (pC (.int 0)) (aCons (pC (.int 1)) aNil))) (aCons (pTup (aCons (pC (.int 1)) aNil)) (aCons (pTup (aCons (pC (.int 1)) aNil)) aNil)))) (pOp2 gMod (pCall (on1 gInt) (aCons (pOp2 gIx (pBv 1) (pC (.int 30))) aNil)) (pC (.int 3)))) aNil))))))))))))))
def m_law : List D → Option W := mkM 9 1 b_law
/-- the builtins are their own -/
structure MG (mg : Str → Option Value) : Prop where
  abs_ : mg "abs" = none
  all_ : mg "all" = none
  bool_ : mg "bool" = none
  enumerate_ : mg "enumerate" = none
  int_ : mg "int" = none
  isinstance_ : mg "isinstance" = none
  len_ : mg "len" = none
  min_ : mg "min" = none
  range_ : mg "range" = none
  sorted_ : mg "sorted" = none
  str_ : mg "str" = none
  sum_ : mg "sum" = none
  tuple_ : mg "tuple" = none
  zip_ : mg "zip" = none
section
variable {P : Program} {w : World} {K : PySem.W.Frag} {mg : Str → Option Value} {base : Heap}
set_option maxHeartbeats 1000000 in
theorem ok_law_mixed {f fd} (F : Fun K "_law_mixed" "_law_mixed" s_law_mixed f fd) (B : MG mg) : FnOk P w K mg base CX0 1 f fd ["script", "k"] (spD K m_law_mixed) :=
  fnM F sc_law_mixed fun cdv A outer s H hr => b_cons (s_asg sc_law_mixed.nd e_int) (b_cons (s_if (t_cmp op_gt g_cmpI (e_len (by rfl) B.len_ (e_bv 0)) e_int) (b_one (s_asg sc_law_mixed.nd (e_ix ix_seq g_ix (e_bv 0) (e_bin op_mod g_mod (e_bv 1) (e_len (by rfl) B.len_ (e_bv 0)))))) b_nil) (b_cons (s_asg sc_law_mixed.nd (e_bin op_mod g_mod (e_intF (by rfl) B.int_ (e_bin op_addA g_add (e_bin op_addA g_add (e_bin op_mul g_mulI (e_bv 2) e_int) (e_bin op_mul g_mulI (e_bv 1) e_int)) e_int)) e_int)) (b_cons (s_asg sc_law_mixed.nd (e_bin op_mod g_mod (e_intF (by rfl) B.int_ (e_bin op_addA g_add (e_bin op_addA g_add (e_bin op_mul g_mulI (e_bv 3) (e_bv 3)) (e_bin op_fdiv g_fdiv (e_bv 3) e_int)) (e_bin op_mul g_mulI (e_bv 1) e_int))) e_int)) (b_cons (s_asg sc_law_mixed.nd (e_bin op_mod g_mod (e_intF (by rfl) B.int_ (e_bin op_addA g_add (e_bin op_addA g_add (e_bin op_mul g_mulI (e_bv 4) (e_bv 4)) (e_bin op_fdiv g_fdiv (e_bv 4) e_int)) e_int)) e_int)) (b_one (s_ret (e_bin op_mod g_mod (e_bin op_fdiv g_fdiv (e_bv 5) e_int) e_int)))))))
set_option maxHeartbeats 1000000 in
theorem ok_law_row {f fd} (F : Fun K "_law_row" "_law_row" s_law_row f fd) (B : MG mg) (F_law_mixed : FnG P w K mg base 1 "_law_mixed" m_law_mixed []) : FnOk P w K mg base CX0 2 f fd ["script", "many"] (spD K m_law_row) :=
  fnM F sc_law_row fun cdv A outer s H hr => b_cons (s_asg sc_law_row.nd e_int) (b_cons (s_if ((w_and (t_cmp op_gt g_cmpI (e_len (by rfl) B.len_ (e_bv 0)) e_int) (w_and1 (t_cmp op_ge g_cmpI (e_ix ix_seq g_ix (e_bv 0) e_int) (e_bin op_pow g_pow e_int e_int)))).t) (b_one (s_asg sc_law_row.nd (e_ix ix_seq g_ix (e_bv 0) e_int))) b_nil) (b_cons (s_asg sc_law_row.nd (e_lst a_nil)) (b_cons (s_for PassesOwn.never rfl (i_range1 (by rfl) B.range_ (e_bv 1)) (g_name sc_law_row.nd) (b_one (s_if (t_cmp op_gt g_cmpI (e_bv 2) e_int) (b_cons (s_app (e_bin op_mod g_mod (e_intF (by rfl) B.int_ (e_bv 2)) e_int)) (b_one (s_asg sc_law_row.nd (e_bin op_fdiv g_fdiv (e_bv 2) e_int)))) (b_one (s_app (e_fn (F_law_mixed.d (by omega)) hr (by rfl) (a_cons (e_bv 0) (a_cons (e_bv 4) a_nil)) pass0)))))) (b_one (s_ret (e_bv 3))))))
set_option maxHeartbeats 1000000 in
theorem ok_law_deeds {f fd} (F : Fun K "_law_deeds" "_law_deeds" s_law_deeds f fd) (B : MG mg) : FnOk P w K mg base CX0 1 f fd ["row", "names"] (spD K m_law_deeds) :=
  fnM F sc_law_deeds fun cdv A outer s H hr => b_cons (s_par2 rfl sc_law_deeds.nd (a_cons (e_lst a_nil) (a_cons e_int a_nil))) (b_cons (s_for PassesOwn.never rfl (i_range1 (by rfl) B.range_ (e_bin op_mod g_mod (e_intF (by rfl) B.int_ (e_ix ix_seq g_ix (e_bv 0) e_int)) e_int)) (g_name sc_law_deeds.nd) (b_cons (s_asg sc_law_deeds.nd (e_intF (by rfl) B.int_ (e_ix ix_seq g_ix (e_bv 0) (e_bin op_addA g_add e_int (e_bv 4))))) (b_one (s_if ((w_and (t_cmp op_lt g_cmpI (e_bin op_mod g_mod (e_bv 5) e_int) e_int) (w_and (t_cmp op_lt g_cmpI (e_bv 3) e_int) (w_and1 (t_cmp op_gt g_cmpI (e_len (by rfl) B.len_ (e_bv 1)) e_int)))).t) (b_cons (s_app (e_tup (a_cons (e_ix ix_seq g_ix (e_tup (a_cons e_str (a_cons e_str a_nil))) (e_bin op_mod g_mod (e_bin op_fdiv g_fdiv (e_bv 5) e_int) e_int)) (a_cons (e_ix ix_seq g_ix (e_bv 1) (e_bin op_mod g_mod (e_bin op_fdiv g_fdiv (e_bv 5) e_int) (e_len (by rfl) B.len_ (e_bv 1)))) a_nil)))) (b_one (s_asg sc_law_deeds.nd (e_bin op_addA g_add (e_bv 3) e_int)))) (b_one (s_app (e_tup (a_cons e_str (a_cons (e_bin op_mod g_mod (e_bin op_fdiv g_fdiv (e_bv 5) e_int) e_int) a_nil))))))))) (b_cons (s_for PassesOwn.never rfl (i_range1 (by rfl) B.range_ (e_len (by rfl) B.len_ (e_bv 1))) (g_name sc_law_deeds.nd) (b_cons (s_asg sc_law_deeds.nd (e_bin op_mod g_mod (e_intF (by rfl) B.int_ (e_ix ix_seq g_ix (e_bv 0) (e_bin op_addA g_add e_int (e_bv 4)))) (e_bin op_addA g_add (e_len (by rfl) B.len_ (e_bv 2)) e_int))) (b_one (s_asg sc_law_deeds.nd (e_bin op_addA g_add (e_bin op_addA g_add (e_sl (e_bv 2) o_none (o_some (e_bv 6))) (e_lst (a_cons (e_tup (a_cons e_str (a_cons (e_ix ix_seq g_ix (e_bv 1) (e_bv 4)) a_nil))) a_nil))) (e_sl (e_bv 2) (o_some (e_bv 6)) o_none)))))) (b_one (s_ret (e_ktupOf (by rfl) B.tuple_ (e_bv 2))))))
set_option maxHeartbeats 1000000 in
theorem ok_law_is_int {f fd} (F : Fun K "_law_is_int" "_law_is_int" s_law_is_int f fd) (B : MG mg) : FnOk P w K mg base CX0 1 f fd ["value"] (spD K m_law_is_int) :=
  fnM F sc_law_is_int fun cdv A outer s H hr => b_one (s_ret (e_and (e_isi .int (by rfl) B.isinstance_ (by rfl) B.int_ (e_bv 0)) (e_one (e_not (e_isi .bl (by rfl) B.isinstance_ (by rfl) B.bool_ (e_bv 0))))))
set_option maxHeartbeats 1000000 in
theorem ok_law_like {f fd n} {m : List D → Option W} (F : Fun K "_law_like" "_law_like" s_law_like f fd) (B : MG mg) (F_law_is_int : FnG P w K mg base 1 "_law_is_int" m_law_is_int []) (F_law_like : FnG P w K mg base (n + 1) "_law_like" m []) : FnOk P w K mg base CX0 (n + 1 + 1) f fd ["value", "due"] (spD K (mkM 3 2 (b_law_like m))) :=
  fnM F sc_law_like fun cdv A outer s H hr => b_cons (s_if (t_cmp op_isN g_isN (e_bv 1) e_non) (b_one (s_ret (e_cmp op_isN g_isN (e_bv 0) e_non))) b_nil) (b_cons (s_if (t_val (e_isi .bl (by rfl) B.isinstance_ (by rfl) B.bool_ (e_bv 1))) (b_one (s_ret (e_and (e_isi .bl (by rfl) B.isinstance_ (by rfl) B.bool_ (e_bv 0)) (e_one (e_cmp (op_eqA hr.units) g_eq (e_bv 0) (e_bv 1)))))) b_nil) (b_cons (s_if (t_val (e_isi .tup (by rfl) B.isinstance_ (by rfl) B.tuple_ (e_bv 1))) (b_cons (s_if ((w_or (t_not (t_val (e_isi .tup (by rfl) B.isinstance_ (by rfl) B.tuple_ (e_bv 0)))) (w_or1 (t_cmp (op_neA hr.units) g_ne (e_len (by rfl) B.len_ (e_bv 0)) (e_len (by rfl) B.len_ (e_bv 1))))).t) (b_one (s_ret e_bl)) b_nil) (b_one (s_ret (e_all rfl (by rfl) B.all_ (e_lc (j := 0) rfl sc_law_like.nd (c_range1 (by rfl) B.range_ (e_len (by rfl) B.len_ (e_bv 1))) (blkOk_by (own := [("k", 2)]) rfl) (fun s H C cl fp => g_name sc_law_like.nd) (fun s H C cl fp => ts_nil) (fun s H C cl fp => e_fn (F_law_like.d (by omega)) hr (by rfl) (a_cons (e_ix ix_seq g_ix (e_bv 0) (e_bv 2)) (a_cons (e_ix ix_seq g_ix (e_bv 1) (e_bv 2)) a_nil)) pass0)))))) b_nil) (b_cons (s_if (t_val (e_isi .str (by rfl) B.isinstance_ (by rfl) B.str_ (e_bv 1))) (b_one (s_ret (e_and (e_isi .str (by rfl) B.isinstance_ (by rfl) B.str_ (e_bv 0)) (e_one (e_cmp (op_eqA hr.units) g_eq (e_bv 0) (e_bv 1)))))) b_nil) (b_one (s_ret (e_and (e_fn (F_law_is_int.d (by omega)) hr (by rfl) (a_cons (e_bv 0) a_nil) pass0) (e_one (e_cmp (op_eqA hr.units) g_eq (e_bv 0) (e_bv 1)))))))))
theorem okr_law_like {f fd} (F : Fun K "_law_like" "_law_like" s_law_like f fd) (B : MG mg) (F_law_is_int : FnG P w K mg base 1 "_law_is_int" m_law_is_int []) (hm : mg "_law_like" = some (.ref f)) (hb : Binds K fd ["value", "due"] []) : ∀ n, FnOk P w K mg base CX0 (n + 1) f fd ["value", "due"] (spD K (r_law_like n))
  | 0 => F.ok sc_law_like (fun vs H Q E ⟨_, _, _, h, _⟩ => by cases h) (fun cdv A outer s H vs Q E hr ⟨_, _, _, h, _⟩ => by cases h)
  | n + 1 => by
    have h := ok_law_like (n := n) F B F_law_is_int ⟨⟨f, fd, _, [], [], okr_law_like F B F_law_is_int hm hb n, hm, F.kp, hb, .nil, fun _ => rfl⟩, fun ds u q => by
      cases n with
      | zero => cases q
      | succ n => exact mkM_cl ds u q⟩
    have e : n + 1 + 1 = n + 1 + 1 := by omega
    rw [e]; exact h
set_option maxHeartbeats 1000000 in
theorem ok_needed_parts {f fd} (F : Fun K "needed_parts" "needed_parts" s_needed_parts f fd) (B : MG mg) : FnOk P w K mg base CX0 1 f fd ["parts", "first"] (spD K m_needed_parts) :=
  fnM F sc_needed_parts fun cdv A outer s H hr => b_cons (s_asg sc_needed_parts.nd (e_dnewK (k := 1))) (b_cons (s_for PassesOwn.never rfl (i_enum (by rfl) B.enumerate_ (e_var 0)) (g_tup rfl (gs_cons (g_name sc_needed_parts.nd) (gs_cons (g_name sc_needed_parts.nd) gs_nil))) (b_one (s_for PassesOwn.never rfl (i_seq (e_ix ix_seq g_ix (e_bv 4) e_int)) (g_name sc_needed_parts.nd) (b_one (s_setApp (i := 2) (m := 3) (e_bv 5)))))) (b_frz 2 (b_cons (s_par2 rfl sc_needed_parts.nd (a_cons (e_disp1 (e_bv 1) e_bl) (a_cons (e_lst (a_cons (e_var 1) a_nil)) a_nil))) (b_cons (s_while PassesOwn.never (t_tru (e_bv 7)) (b_cons (s_popIx (i := 7) (j := 4) (m := 0) sc_needed_parts.nd) (b_one (s_for PassesOwn.never rfl (i_seq (e_ix ix_seq g_ix (e_bv 4) e_int)) (g_name sc_needed_parts.nd) (b_one (s_for PassesOwn.never rfl (i_seq (e_dget2 (hu_of hr) (e_bv 2) (e_bv 5) (e_tup a_nil))) (g_name sc_needed_parts.nd) (b_one (s_if (t_dnotin (hu_of hr) (e_bv 3) (e_bv 6)) (b_cons (s_put (hu_of hr) e_bl (e_bv 3)) (b_one (s_app (e_var 3)))) b_nil)))))))) (b_one (s_ret (e_tupOf (by rfl) B.tuple_ (e_sortedD rfl hr.units (by rfl) B.sorted_ (e_bv 6)))))))))
set_option maxHeartbeats 1000000 in
theorem ok_law_choices {f fd} (F : Fun K "_law_choices" "_law_choices" s_law_choices f fd) (B : MG mg) : FnOk P w K mg base CX0 1 f fd ["deeds"] (spD K m_law_choices) :=
  fnM F sc_law_choices fun cdv A outer s H hr => b_cons (s_asg sc_law_choices.nd (e_lst (a_cons (e_tup a_nil) a_nil))) (b_cons (s_for PassesOwn.never rfl (i_seq (e_var 0)) (g_name sc_law_choices.nd) (b_cons (s_asg sc_law_choices.nd (e_lst (a_cons e_int a_nil))) (b_cons (s_if (t_cmp (op_eqA hr.units) g_eq (e_ix ix_seq g_ix (e_bv 2) e_int) e_str) (b_one (s_asg sc_law_choices.nd (e_lst (a_cons (e_ix ix_seq g_ix (e_bv 2) e_int) a_nil)))) b_nil) (b_cons (s_if (t_cmp op_in_seq (g_in false) (e_ix ix_seq g_ix (e_bv 2) e_int) (e_tup (a_cons e_str (a_cons e_str a_nil)))) (b_one (s_asg sc_law_choices.nd (e_lst (a_cons (e_bin op_addA g_add e_int (e_intF (by rfl) B.int_ (e_cmp (op_eqA hr.units) g_eq (e_ix ix_seq g_ix (e_bv 2) e_int) e_str))) (a_cons (e_bin op_addA g_add e_int (e_intF (by rfl) B.int_ (e_cmp (op_eqA hr.units) g_eq (e_ix ix_seq g_ix (e_bv 2) e_int) e_str))) a_nil))))) b_nil) (b_cons (s_asg sc_law_choices.nd (e_lst a_nil)) (b_frz 1 (b_cons (s_for PassesOwn.never rfl (i_seq (e_var 1)) (g_name sc_law_choices.nd) (b_one (s_ext (e_lc (j := 0) rfl sc_law_choices.nd (c_list (e_bv 3)) (blkOk_by (own := [("size", 6)]) rfl) (fun s H C cl fp => g_name sc_law_choices.nd) (fun s H C cl fp => ts_nil) (fun s H C cl fp => e_bin op_addA g_add (e_bv 5) (e_tup (a_cons (e_var 6) a_nil))))))) (b_one (s_mv (i := 4) (j := 1) sc_law_choices.nd))))))))) (b_one (s_ret (e_bv 1))))
set_option maxHeartbeats 1000000 in
theorem ok_law_places {f fd} (F : Fun K "_law_places" "_law_places" s_law_places f fd) (B : MG mg) : FnOk P w K mg base CX0 1 f fd ["sizes"] (spD K m_law_places) :=
  fnM F sc_law_places fun cdv A outer s H hr => b_cons (s_par2 rfl sc_law_places.nd (a_cons (e_lst a_nil) (a_cons e_int a_nil))) (b_cons (s_for PassesOwn.never rfl (i_seq (e_var 0)) (g_name sc_law_places.nd) (b_cons (s_app (e_var 2)) (b_one (s_asg sc_law_places.nd (e_bin op_addA g_add (e_bv 2) (e_bv 3)))))) (b_one (s_ret (e_bv 1))))
set_option maxHeartbeats 1000000 in
theorem ok_law_fits {f fd} (F : Fun K "_law_fits" "_law_fits" s_law_fits f fd) (B : MG mg) (F_law_places : FnG P w K mg base 1 "_law_places" m_law_places []) : FnOk P w K mg base CX0 2 f fd ["deeds", "sizes"] (spD K m_law_fits) :=
  fnM F sc_law_fits fun cdv A outer s H hr => b_cons (s_asg sc_law_fits.nd (e_fn (F_law_places.d (by omega)) hr (by rfl) (a_cons (e_bv 1) a_nil) pass0)) (b_cons (s_for PassesOwn.never rfl (i_range1 (by rfl) B.range_ (e_len (by rfl) B.len_ (e_bv 0))) (g_name sc_law_fits.nd) (b_one (s_if ((w_and (t_cmp op_in_seq (g_in false) (e_ix ix_seq g_ix (e_ix ix_seq g_ix (e_bv 0) (e_bv 3)) e_int) (e_tup (a_cons e_str (a_cons e_str a_nil)))) (w_and1 (t_cmp op_lt g_cmpI (e_ix ix_seq g_ix (e_bv 1) (e_bv 3)) e_int))).t) (b_cons (s_asg sc_law_fits.nd (e_bin op_sub g_sub (e_bin op_sub g_sub (e_ix ix_seq g_ix (e_bv 2) (e_tindex (hu65 hr) (e_bv 0) (e_tup (a_cons e_str (a_cons (e_ix ix_seq g_ix (e_ix ix_seq g_ix (e_bv 0) (e_bv 3)) e_int) a_nil))))) (e_ix ix_seq g_ix (e_bv 2) (e_bv 3))) (e_ix ix_seq g_ix (e_bv 1) (e_bv 3)))) (b_one (s_if (t_not (t_chain op_le g_cmpI op_le g_cmpI (e_un un_neg g_neg e_int) (e_bv 4) e_int)) (b_one (s_ret e_bl)) b_nil))) b_nil))) (b_one (s_ret e_bl)))
set_option maxHeartbeats 1000000 in
theorem ok_law_least {f fd} (F : Fun K "_law_least" "_law_least" s_law_least f fd) (B : MG mg) (F_law_choices : FnG P w K mg base 1 "_law_choices" m_law_choices []) (F_law_fits : FnG P w K mg base 2 "_law_fits" m_law_fits []) : FnOk P w K mg base CX0 3 f fd ["deeds"] (spD K m_law_least) :=
  fnM F sc_law_least fun cdv A outer s H hr => b_cons (s_asg sc_law_least.nd (e_lc (j := 0) rfl sc_law_least.nd (c_seq (e_fn (F_law_choices.d (by omega)) hr (by rfl) (a_cons (e_bv 0) a_nil) pass0)) (blkOk_by (own := [("sizes", 2)]) rfl) (fun s H C cl fp => g_name sc_law_least.nd) (fun s H C cl fp => ts_one (t_val (e_fn (F_law_fits.d (by omega)) hr (by rfl) (a_cons (e_bv 0) (a_cons (e_bv 2) a_nil)) pass0))) (fun s H C cl fp => e_var 2))) (b_one (s_ret (e_tupOf (by rfl) B.tuple_ (e_lc (j := 0) rfl sc_law_least.nd (c_range1 (by rfl) B.range_ (e_len (by rfl) B.len_ (e_bv 0))) (blkOk_by (own := [("k", 3)]) rfl) (fun s H C cl fp => g_name sc_law_least.nd) (fun s H C cl fp => ts_nil) (fun s H C cl fp => e_min rfl (by rfl) B.min_ (e_lc (j := 0) rfl sc_law_least.nd (c_list (e_bv 1)) (blkOk_by (own := [("sizes", 2)]) rfl) (fun s H C cl fp => g_name sc_law_least.nd) (fun s H C cl fp => ts_nil) (fun s H C cl fp => e_ix ix_seq g_ix (e_bv 2) (e_bv 3))))))))
set_option maxHeartbeats 1000000 in
theorem ok_marks_of {f fd} (F : Fun K "marks_of" "marks_of" s_marks_of f fd) (B : MG mg) : FnOk P w K mg base CX0 1 f fd ["row"] (spD K m_marks_of) :=
  fnM F sc_marks_of fun cdv A outer s H hr => b_cons (s_asg sc_marks_of.nd (e_dnewK (k := 0))) (b_cons (s_for PassesOwn.never rfl (i_enum (by rfl) B.enumerate_ (e_var 0)) (g_tup rfl (gs_cons (g_name sc_marks_of.nd) (gs_cons (g_name sc_marks_of.nd) gs_nil))) (b_one (s_if ((w_and (t_cmp (op_eqA hr.units) g_eq (e_ix ix_seq g_ix (e_bv 3) e_int) e_str) (w_and1 (t_dnotin (hu_of hr) (e_ix ix_seq g_ix (e_bv 3) e_int) (e_bv 1)))).t) (b_one (s_put (hu_of hr) (e_var 2) (e_ix ix_seq g_ix (e_bv 3) e_int))) b_nil))) (b_one (s_ret (e_bv 1))))
set_option maxHeartbeats 1000000 in
theorem ok_places_of {f fd} (F : Fun K "places_of" "places_of" s_places_of f fd) (B : MG mg) : FnOk P w K mg base CX0 1 f fd ["row", "sizes"] (spD K m_places_of) :=
  fnM F sc_places_of fun cdv A outer s H hr => b_cons (s_par2 rfl sc_places_of.nd (a_cons (e_lst a_nil) (a_cons e_int a_nil))) (b_cons (s_for PassesOwn.never rfl (i_zip (by rfl) B.zip_ (e_var 0) (e_var 1)) (g_tup rfl (gs_cons (g_name sc_places_of.nd) (gs_cons (g_name sc_places_of.nd) gs_nil))) (b_cons (s_app (e_var 3)) (b_one (s_aug sc_places_of.nd ip_add g_addI (e_bv 5))))) (b_one (s_ret (e_tupOf (by rfl) B.tuple_ (e_bv 2)))))
set_option maxHeartbeats 1000000 in
theorem ok_far_ones {f fd} (F : Fun K "far_ones" "far_ones" s_far_ones f fd) (B : MG mg) (F_places_of : FnG P w K mg base 1 "places_of" m_places_of []) (D_SHORT : KDG w K mg "SHORT" k_SHORT) (I_NEAR : ∃ t, mg "NEAR" = some (.int 10 t)) : FnOk P w K mg base CX0 2 f fd ["row", "sizes", "marks"] (spD K m_far_ones) :=
  fnM F sc_far_ones fun cdv A outer s H hr => b_cons (s_asg sc_far_ones.nd (e_fn (F_places_of.d (by omega)) hr (by rfl) (a_cons (e_bv 0) (a_cons (e_bv 1) a_nil)) pass0)) (b_cons (s_asg sc_far_ones.nd (e_lst a_nil)) (b_cons (s_for PassesOwn.never rfl (i_enum (by rfl) B.enumerate_ (e_var 0)) (g_tup rfl (gs_cons (g_name sc_far_ones.nd) (gs_cons (g_name sc_far_ones.nd) gs_nil))) (b_one (s_if ((w_and (t_kin D_SHORT.d (by rfl) (e_ix ix_seq g_ix (e_bv 6) e_int)) (w_and1 (t_cmp (op_eqA hr.units) g_eq (e_ix ix_seq g_ix (e_bv 1) (e_bv 5)) (e_kget D_SHORT.d (by rfl) (e_ix ix_seq g_ix (e_bv 6) e_int))))).t) (b_one (s_if (t_cmp op_gt g_cmpI (e_abs (by rfl) B.abs_ (e_bin op_sub g_sub (e_bin op_sub g_sub (e_ix ix_seq g_ix (e_bv 3) (e_dget (hu_of hr) (e_bv 2) (e_ix ix_seq g_ix (e_bv 6) e_int))) (e_ix ix_seq g_ix (e_bv 3) (e_bv 5))) (e_ix ix_seq g_ix (e_bv 1) (e_bv 5)))) (e_gint (by rfl) I_NEAR)) (b_one (s_app (e_var 5))) b_nil)) b_nil))) (b_one (s_ret (e_bv 4)))))
set_option maxHeartbeats 1000000 in
theorem ok_least_sizes {f fd} (F : Fun K "least_sizes" "least_sizes" s_least_sizes f fd) (B : MG mg) (F_marks_of : FnG P w K mg base 1 "marks_of" m_marks_of []) (F_far_ones : FnG P w K mg base 2 "far_ones" m_far_ones []) (D_SHORT : KDG w K mg "SHORT" k_SHORT) (D_LONG : KDG w K mg "LONG" k_LONG) : FnOk P w K mg base CX0 3 f fd ["row"] (spD K m_least_sizes) :=
  fnM F sc_least_sizes fun cdv A outer s H hr => b_cons (s_setLc (j := 0) rfl sc_least_sizes.nd (by rfl) (c_seq (e_var 0)) (blkOk_by (own := [("deed", 5)]) rfl) (fun s H C cl fp => g_name sc_least_sizes.nd) (fun s H C cl fp => ts_nil) (fun s H C cl fp => e_if (t_cmp (op_eqA hr.units) g_eq (e_ix ix_seq g_ix (e_bv 5) e_int) e_str) (e_ix ix_seq g_ix (e_bv 5) e_int) (e_kget2 D_SHORT.d (by rfl) (e_ix ix_seq g_ix (e_bv 5) e_int) e_int))) (b_cons (s_asg sc_least_sizes.nd (e_fn (F_marks_of.d (by omega)) hr (by rfl) (a_cons (e_bv 0) a_nil) pass0)) (b_cons (s_asg sc_least_sizes.nd (e_fn (F_far_ones.d (by omega)) hr (by rfl) (a_cons (e_bv 0) (a_cons (e_bv 1) (a_cons (e_bv 2) a_nil))) pass0)) (b_cons (s_while PassesOwn.never (t_tru (e_bv 3)) (b_frz 3 (b_cons (s_for PassesOwn.never rfl (i_seq (e_var 3)) (g_name sc_least_sizes.nd) (b_one (s_set (e_kget D_LONG.d (by rfl) (e_ix ix_seq g_ix (e_ix ix_seq g_ix (e_bv 0) (e_bv 4)) e_int)) (e_bv 4)))) (b_one (s_asg sc_least_sizes.nd (e_fn (F_far_ones.d (by omega)) hr (by rfl) (a_cons (e_bv 0) (a_cons (e_bv 1) (a_cons (e_bv 2) a_nil))) pass0)))))) (b_one (s_ret (e_tupOf (by rfl) B.tuple_ (e_bv 1)))))))
set_option maxHeartbeats 1000000 in
theorem ok_law_right {f fd} (F : Fun K "_law_right" "_law_right" s_law_right f fd) (B : MG mg) (F_law_least : FnG P w K mg base 3 "_law_least" m_law_least []) (F_law_choices : FnG P w K mg base 1 "_law_choices" m_law_choices []) (F_law_fits : FnG P w K mg base 2 "_law_fits" m_law_fits []) (F_law_like : FnG P w K mg base 7 "_law_like" m_law_like []) (F_least_sizes : FnG P w K mg base 3 "least_sizes" m_least_sizes []) (F_places_of : FnG P w K mg base 1 "places_of" m_places_of []) (F_law_places : FnG P w K mg base 1 "_law_places" m_law_places []) : FnOk P w K mg base CX0 8 f fd ["deeds"] (spD K m_law_right) :=
  fnM F sc_law_right fun cdv A outer s H hr => b_cons (s_par2 rfl sc_law_right.nd (a_cons (e_fn (F_law_least.d (by omega)) hr (by rfl) (a_cons (e_bv 0) a_nil) pass0) (a_cons (e_fn (F_law_choices.d (by omega)) hr (by rfl) (a_cons (e_bv 0) a_nil) pass0) a_nil))) (b_cons (s_if ((w_or (t_not (t_val (e_fn (F_law_fits.d (by omega)) hr (by rfl) (a_cons (e_bv 0) (a_cons (e_bv 1) a_nil)) pass0))) (w_or1 (t_not (t_val (e_fn (F_law_like.d (by omega)) hr (by rfl) (a_cons (e_fn (F_least_sizes.d (by omega)) hr (by rfl) (a_cons (e_bv 0) a_nil) pass0) (a_cons (e_bv 1) a_nil)) pass0))))).t) (b_one (s_ret e_bl)) b_nil) (b_cons (s_for PassesOwn.never rfl (i_seq (e_tup (a_cons (e_var 1) (a_cons (e_ix ix_seq g_ix (e_bv 2) (e_bin op_sub g_sub (e_len (by rfl) B.len_ (e_bv 2)) e_int)) (a_cons (e_ix ix_seq g_ix (e_bv 2) e_int) a_nil))))) (g_name sc_law_right.nd) (b_one (s_if (t_not (t_val (e_fn (F_law_like.d (by omega)) hr (by rfl) (a_cons (e_fn (F_places_of.d (by omega)) hr (by rfl) (a_cons (e_bv 0) (a_cons (e_bv 3) a_nil)) pass0) (a_cons (e_tupOf (by rfl) B.tuple_ (e_fn (F_law_places.d (by omega)) hr (by rfl) (a_cons (e_bv 3) a_nil) pass0)) a_nil)) pass0))) (b_one (s_ret e_bl)) b_nil))) (b_one (s_ret e_bl))))
set_option maxHeartbeats 1000000 in
theorem ok_law_edges {f fd} (F : Fun K "_law_edges" "_law_edges" s_law_edges f fd) (B : MG mg) (F_law_like : FnG P w K mg base 7 "_law_like" m_law_like []) (F_least_sizes : FnG P w K mg base 3 "least_sizes" m_least_sizes []) (F_law_least : FnG P w K mg base 3 "_law_least" m_law_least []) : FnOk P w K mg base CX0 8 f fd ["row"] (spD K m_law_edges) :=
  fnM F sc_law_edges fun cdv A outer s H hr => b_cons (s_par2 rfl sc_law_edges.nd (a_cons (e_intF (by rfl) B.int_ (e_ix ix_seq g_ix (e_bv 0) e_int)) (a_cons (e_ix ix_seq g_ix (e_tup (a_cons e_str (a_cons e_str a_nil))) (e_bin op_mod g_mod (e_intF (by rfl) B.int_ (e_ix ix_seq g_ix (e_bv 0) e_int)) e_int)) a_nil))) (b_cons (s_par2 rfl sc_law_edges.nd (a_cons (e_bin op_addA g_add e_int (e_intF (by rfl) B.int_ (e_cmp (op_eqA hr.units) g_eq (e_bv 2) e_str))) (a_cons (e_bin op_addA g_add e_int (e_bin op_mod g_mod (e_bv 1) e_int)) a_nil))) (b_cons (s_asg sc_law_edges.nd (e_tup (a_cons (e_tup (a_cons (e_var 2) (a_cons e_str a_nil))) (a_cons (e_tup (a_cons e_str (a_cons (e_var 4) a_nil))) (a_cons (e_tup (a_cons e_str (a_cons e_str a_nil))) (a_cons (e_tup (a_cons e_str (a_cons e_int a_nil))) a_nil)))))) (b_cons (s_if (t_not (t_val (e_fn (F_law_like.d (by omega)) hr (by rfl) (a_cons (e_fn (F_least_sizes.d (by omega)) hr (by rfl) (a_cons (e_bv 5) a_nil) pass0) (a_cons (e_tup (a_cons (e_bin op_addA g_add (e_bv 3) (e_bin op_mul g_mulI e_int (e_intF (by rfl) B.int_ (e_cmp op_gt g_cmpI (e_bv 4) e_int)))) (a_cons (e_var 4) (a_cons e_int (a_cons e_int a_nil))))) a_nil)) pass0))) (b_one (s_ret e_bl)) b_nil) (b_cons (s_asg sc_law_edges.nd (e_tup (a_cons (e_tup (a_cons e_str (a_cons e_str a_nil))) (a_cons (e_tup (a_cons e_str (a_cons (e_bin op_sub g_sub (e_bv 4) (e_bv 3)) a_nil))) (a_cons (e_tup (a_cons (e_var 2) (a_cons e_str a_nil))) a_nil))))) (b_cons (s_if (t_not (t_val (e_fn (F_law_like.d (by omega)) hr (by rfl) (a_cons (e_fn (F_least_sizes.d (by omega)) hr (by rfl) (a_cons (e_bv 6) a_nil) pass0) (a_cons (e_tup (a_cons e_int (a_cons (e_bin op_sub g_sub (e_bv 4) (e_bv 3)) (a_cons (e_bin op_addA g_add (e_bv 3) (e_bin op_mul g_mulI e_int (e_intF (by rfl) B.int_ (e_cmp op_gt g_cmpI (e_bv 4) e_int)))) a_nil)))) a_nil)) pass0))) (b_one (s_ret e_bl)) b_nil) (b_cons (s_asg sc_law_edges.nd (e_bin op_addA g_add e_int (e_bin op_mod g_mod (e_bin op_fdiv g_fdiv (e_bv 1) e_int) e_int))) (b_cons (s_asg sc_law_edges.nd (e_ktup (a_cons (e_tup (a_cons e_str (a_cons e_str a_nil))) (a_cons (e_tup (a_cons e_str (a_cons (e_var 7) a_nil))) (a_cons (e_tup (a_cons (e_var 2) (a_cons e_str a_nil))) (a_cons (e_tup (a_cons e_str (a_cons e_str a_nil))) (a_cons (e_tup (a_cons e_str (a_cons (e_bin op_addA g_add e_int (e_bin op_mod g_mod (e_bin op_fdiv g_fdiv (e_bv 1) e_int) e_int)) a_nil))) (a_cons (e_tup (a_cons e_str (a_cons e_str a_nil))) a_nil)))))))) (b_cons (s_asg sc_law_edges.nd (e_intF (by rfl) B.int_ (e_cmp op_gt g_cmpI (e_bin op_addA g_add e_int (e_bin op_mod g_mod (e_bin op_fdiv g_fdiv (e_bv 1) e_int) e_int)) e_int))) (b_cons (s_asg sc_law_edges.nd (e_intF (by rfl) B.int_ (e_cmp op_gt g_cmpI (e_bin op_addA g_add (e_bin op_addA g_add (e_bv 7) (e_bv 3)) (e_bin op_mul g_mulI e_int (e_bv 9))) e_int))) (b_cons (s_asg sc_law_edges.nd (e_tup (a_cons (e_bin op_addA g_add e_int (e_bin op_mul g_mulI e_int (e_bv 10))) (a_cons (e_var 7) (a_cons (e_bin op_addA g_add (e_bv 3) (e_bin op_mul g_mulI e_int (e_bv 9))) (a_cons e_int (a_cons (e_bin op_addA g_add e_int (e_bin op_mod g_mod (e_bin op_fdiv g_fdiv (e_bv 1) e_int) e_int)) (a_cons e_int a_nil)))))))) (b_one (s_ret (e_and (e_fn (F_law_like.d (by omega)) hr (by rfl) (a_cons (e_fn (F_least_sizes.d (by omega)) hr (by rfl) (a_cons (e_bv 8) a_nil) pass0) (a_cons (e_bv 11) a_nil)) pass0) (e_one (e_cmp (op_eqA hr.units) g_eq (e_fn (F_law_least.d (by omega)) hr (by rfl) (a_cons (e_bv 8) a_nil) pass0) (e_bv 11))))))))))))))))
set_option maxHeartbeats 1000000 in
theorem ok_linked {f fd} (F : Fun K "linked" "linked" s_linked f fd) (B : MG mg) : FnOk P w K mg base CX0 1 f fd ["parts", "order"] (spD K m_linked) :=
  fnM F sc_linked fun cdv A outer s H hr => b_cons (s_parN rfl (a_cons (e_dnewT (k := 0)) (a_cons (e_dnewK (k := 0)) (a_cons (e_dnewK (k := 0)) (a_cons e_int a_nil)))) ⟨pg_name (i := 2) sc_linked.nd rfl (by first | exact Or.inl rfl | exact Or.inr rfl), rfl, ⟨pg_name (i := 3) sc_linked.nd rfl (by first | exact Or.inl rfl | exact Or.inr rfl), rfl, ⟨pg_name (i := 4) sc_linked.nd rfl (by first | exact Or.inl rfl | exact Or.inr rfl), rfl, ⟨pg_name (i := 5) sc_linked.nd rfl (by first | exact Or.inl rfl | exact Or.inr rfl), rfl, trivial⟩⟩⟩⟩) (b_cons (s_for PassesOwn.never rfl (i_seq (e_var 1)) (g_name sc_linked.nd) (b_cons (s_asgT (e_ix ix_seq g_ix (e_bv 0) (e_bv 6)) (g_tup rfl (gs_cons (g_name sc_linked.nd) (gs_cons (g_name sc_linked.nd) (gs_cons (g_name sc_linked.nd) gs_nil))))) (b_cons (s_for PassesOwn.never rfl (i_seq (e_var 7)) (g_name sc_linked.nd) (b_cons (s_put (hu_of hr) e_bl (e_tup (a_cons (e_var 10) (a_cons (e_var 5) a_nil)))) (b_one (s_put (hu_of hr) (e_bin op_addA g_add (e_dget2 (hu_of hr) (e_bv 3) (e_bv 10) e_int) e_int) (e_bv 10))))) (b_cons (s_for PassesOwn.never rfl (i_seq (e_var 8)) (g_name sc_linked.nd) (b_one (s_put (hu_of hr) e_bl (e_bv 10)))) (b_one (s_aug sc_linked.nd ip_add g_addI (e_bv 9))))))) (b_frz 4 (b_frz 3 (b_cons (s_asg sc_linked.nd (e_bin op_addA g_add (e_lcD (i := 3) (j := 0) rfl sc_linked.nd (blkOk_by (own := [("name", 10)]) rfl) (fun s H C cl fp => g_name sc_linked.nd) (fun s H C cl fp => ts_one (t_cmp op_gt g_cmpI (e_dget (hu_of hr) (e_bv 3) (e_bv 10)) e_int)) (fun s H C cl fp => e_var 10)) (e_lcD (i := 4) (j := 0) rfl sc_linked.nd (blkOk_by (own := [("name", 10)]) rfl) (fun s H C cl fp => g_name sc_linked.nd) (fun s H C cl fp => ts_one (t_dnotin (hu_of hr) (e_bv 10) (e_bv 3))) (fun s H C cl fp => e_var 10)))) (b_one (s_ret (e_tup (a_cons (e_tupOf (by rfl) B.tuple_ (e_sortedD rfl hr.units (by rfl) B.sorted_ (e_bv 2))) (a_cons (e_tupOf (by rfl) B.tuple_ (e_sorted hr.units (by rfl) B.sorted_ (e_bv 11))) a_nil)))))))))
set_option maxHeartbeats 1000000 in
theorem ok_law {f fd} (F : Fun K "law" "law" s_law f fd) (B : MG mg) (F_law_row : FnG P w K mg base 2 "_law_row" m_law_row []) (F_law_deeds : FnG P w K mg base 1 "_law_deeds" m_law_deeds []) (F_law_like : FnG P w K mg base 7 "_law_like" m_law_like []) (F_needed_parts : FnG P w K mg base 1 "needed_parts" m_needed_parts []) (F_law_right : FnG P w K mg base 8 "_law_right" m_law_right []) (F_law_edges : FnG P w K mg base 8 "_law_edges" m_law_edges []) (F_least_sizes : FnG P w K mg base 3 "least_sizes" m_least_sizes []) (F_linked : FnG P w K mg base 1 "linked" m_linked []) (F_law_least : FnG P w K mg base 3 "_law_least" m_law_least []) : FnOk P w K mg base CX0 9 f fd ["script"] (spD K m_law) :=
  fnM F sc_law fun cdv A outer s H hr => b_cons (s_asg sc_law.nd (e_fn (F_law_row.d (by omega)) hr (by rfl) (a_cons (e_bv 0) (a_cons e_int a_nil)) pass0)) (b_cons (s_asg sc_law.nd (e_fn (F_law_deeds.d (by omega)) hr (by rfl) (a_cons (e_bv 1) (a_cons (e_sl e_str o_none (o_some (e_bin op_mod g_mod (e_intF (by rfl) B.int_ (e_ix ix_seq g_ix (e_bv 1) e_int)) e_int))) a_nil)) pass0)) (b_cons (s_asg sc_law.nd (e_fn (F_law_deeds.d (by omega)) hr (by rfl) (a_cons (e_sl (e_bv 1) (o_some e_int) (o_some e_int)) (a_cons (e_sl e_str o_none (o_some (e_bin op_addA g_add e_int (e_bin op_mod g_mod (e_intF (by rfl) B.int_ (e_ix ix_seq g_ix (e_bv 1) e_int)) e_int)))) a_nil)) pass0)) (b_cons (s_if ((w_or (t_not (t_val (e_fn (F_law_right.d (by omega)) hr (by rfl) (a_cons (e_bv 2) a_nil) pass0))) (w_or (t_not (t_val (e_fn (F_law_right.d (by omega)) hr (by rfl) (a_cons (e_bv 3) a_nil) pass0))) (w_or1 (t_not (t_val (e_fn (F_law_edges.d (by omega)) hr (by rfl) (a_cons (e_sl (e_bv 1) (o_some e_int) (o_some e_int)) a_nil) pass0)))))).t) (b_one (s_ret e_bl)) b_nil) (b_cons (s_asg sc_law.nd (e_lst (a_cons (e_sum rfl (by rfl) B.sum_ (e_fn (F_least_sizes.d (by omega)) hr (by rfl) (a_cons (e_bv 2) a_nil) pass0)) (a_cons (e_sum rfl (by rfl) B.sum_ (e_fn (F_least_sizes.d (by omega)) hr (by rfl) (a_cons (e_bv 3) a_nil) pass0)) a_nil)))) (b_cons (s_asg sc_law.nd (e_tup (a_cons (e_tup (a_cons (e_tup (a_cons e_str a_nil)) (a_cons (e_tup (a_cons e_str a_nil)) (a_cons (e_ix ix_seq g_ix (e_bv 4) e_int) a_nil)))) (a_cons (e_tup (a_cons (e_tup (a_cons e_str (a_cons e_str a_nil))) (a_cons (e_ix ix_seq g_ix (e_tup (a_cons (e_tup (a_cons e_str a_nil)) (a_cons (e_tup (a_cons e_str a_nil)) (a_cons (e_tup a_nil) a_nil)))) (e_bin op_mod g_mod (e_intF (by rfl) B.int_ (e_ix ix_seq g_ix (e_bv 1) e_int)) e_int)) (a_cons (e_ix ix_seq g_ix (e_bv 4) e_int) a_nil)))) a_nil)))) (b_cons (s_asg sc_law.nd (e_ix ix_seq g_ix (e_tup (a_cons (e_tup (a_cons e_int (a_cons e_int a_nil))) (a_cons (e_tup (a_cons e_int (a_cons e_int a_nil))) a_nil))) (e_bin op_mod g_mod (e_intF (by rfl) B.int_ (e_ix ix_seq g_ix (e_bv 1) e_int)) e_int))) (b_cons (s_asg sc_law.nd (e_ix ix_seq g_ix (e_tup (a_cons (e_tup (a_cons e_int (a_cons (e_sum rfl (by rfl) B.sum_ (e_fn (F_law_least.d (by omega)) hr (by rfl) (a_cons (e_bv 2) a_nil) pass0)) a_nil))) (a_cons (e_tup (a_cons (e_sum rfl (by rfl) B.sum_ (e_fn (F_law_least.d (by omega)) hr (by rfl) (a_cons (e_bv 3) a_nil) pass0)) (a_cons e_int a_nil))) a_nil))) (e_bin op_mod g_mod (e_intF (by rfl) B.int_ (e_ix ix_seq g_ix (e_bv 1) e_int)) e_int))) (b_cons (s_asg sc_law.nd (e_bin op_rep01 g_mulT (e_tup (a_cons e_str a_nil)) (e_intF (by rfl) B.int_ (e_cmp (op_eqA hr.units) g_eq (e_bin op_mod g_mod (e_intF (by rfl) B.int_ (e_ix ix_seq g_ix (e_bv 1) e_int)) e_int) e_int)))) (b_cons (s_if (t_not (t_val (e_fn (F_law_like.d (by omega)) hr (by rfl) (a_cons (e_fn (F_linked.d (by omega)) hr (by rfl) (a_cons (e_bv 5) (a_cons (e_bv 6) a_nil)) pass0) (a_cons (e_tup (a_cons (e_tup (a_cons (e_tup (a_cons e_str (a_cons (e_ix ix_seq g_ix (e_bv 7) e_int) a_nil))) (a_cons (e_tup (a_cons e_str (a_cons (e_ix ix_seq g_ix (e_bv 7) e_int) a_nil))) (a_cons (e_tup (a_cons e_str (a_cons (e_ix ix_seq g_ix (e_bv 7) e_int) a_nil))) a_nil)))) (a_cons (e_var 8) a_nil))) a_nil)) pass0))) (b_one (s_ret e_bl)) b_nil) (b_cons (s_if (t_not (t_val (e_fn (F_law_like.d (by omega)) hr (by rfl) (a_cons (e_fn (F_needed_parts.d (by omega)) hr (by rfl) (a_cons (e_bv 5) (a_cons e_int a_nil)) pass0) (a_cons (e_tup (a_cons e_int (a_cons e_int a_nil))) a_nil)) pass0))) (b_one (s_ret e_bl)) b_nil) (b_one (s_ret (e_fn (F_law_like.d (by omega)) hr (by rfl) (a_cons (e_fn (F_needed_parts.d (by omega)) hr (by rfl) (a_cons (e_bv 5) (a_cons e_int a_nil)) pass0) (a_cons (e_ix ix_seq g_ix (e_tup (a_cons (e_tup (a_cons e_int (a_cons e_int a_nil))) (a_cons (e_tup (a_cons e_int a_nil)) (a_cons (e_tup (a_cons e_int a_nil)) a_nil)))) (e_bin op_mod g_mod (e_intF (by rfl) B.int_ (e_ix ix_seq g_ix (e_bv 1) e_int)) e_int)) a_nil)) pass0)))))))))))))
end
end K40
set_option linter.all false
set_option maxRecDepth 100000
namespace K40
open PySem Pv
theorem atI_some {α : Type} (xs : List α) (j : Nat) (h : j < xs.length) : L2.atI xs (j : Int) = some xs[j] := L2.atI_nat (List.getElem?_eq_getElem h)
theorem mixed (ns : List Int) (k : Int) (hk : 0 ≤ k) : ∃ c : Int, 0 ≤ c ∧ m_law_mixed [.scr ns, .int k] = some (0, .int c) := by
  rw [show m_law_mixed [.scr ns, .int k] = finR (b_law_mixed (initE 6 [.scr ns, .int k])) from r_m rfl]
  unfold b_law_mixed
  by_cases h : 0 < ns.length
  · have hn : 0 ≤ k % (ns.length : Int) := Int.emod_nonneg _ (by omega)
    have hl : k % (ns.length : Int) < ns.length := Int.emod_lt_of_pos _ (by omega)
    obtain ⟨j, hj⟩ := Int.eq_ofNat_of_zero_le hn
    have hat := atI_some ns j (by omega)
    rw [← hj] at hat
    simp [r_seq, r_seq_nx, r_seq_rt, r_seq_bk, r_seq_ct, r_nil, r_if, r_if_t, r_if_f, r_asg, r_asg_v, r_arg, r_c, r_var, r_var_0, r_var_s, r_bv, r_bv_s, v_c, v_bv, v_var, v_var_0, g1_s, g2_s, r_op1, r_op2, v_op1, v_op2, va_nil, va_cons, consR_s, gN_s, on1_s, r_call, v_call, fn_s, r_fn, v_fn, ow_nil, ow_cons, ownC_s, disp_s, r_tup, r_ktup, r_lst, v_tup, v_ktup, v_lst, t_vl, bl_s, t_nt, not_s, t_an, t_or, and_t, and_f, or_t, or_f, t_tr, tru_s, r_ife, ife_t, ife_f, r_app, app_s, r_aug, aug_s, r_ret, ret_v, ret_r, retB_s, r_par, a_nl, a_cn, cR_s, par_2, r_for, for_s, i_sq, seq_s, i_rg, rng_s, r_frz, frz_s, fin_rt, fin_nx, l_nil, bind_nm, bindR_s, step_nx, step_rt, initE, List.replicate, isBox, gLen, gInt, gMulI, gMod, gFdiv, gAdd, gSub, gCmpI, gIx, gIsN, isNon, seqD, cleanD, noBox, noBoxs, h, hat]
    generalize hx : (ns[j] * 48271 + k * 69621 + 8191) % 2147483647 = x
    have hx0 : 0 ≤ x := by omega
    have hx1 : x < 2147483647 := by omega
    rw [if_pos (by omega)]
    simp [r_seq, r_seq_nx, r_seq_rt, r_seq_bk, r_seq_ct, r_nil, r_if, r_if_t, r_if_f, r_asg, r_asg_v, r_arg, r_c, r_var, r_var_0, r_var_s, r_bv, r_bv_s, v_c, v_bv, v_var, v_var_0, g1_s, g2_s, r_op1, r_op2, v_op1, v_op2, va_nil, va_cons, consR_s, gN_s, on1_s, r_call, v_call, fn_s, r_fn, v_fn, ow_nil, ow_cons, ownC_s, disp_s, r_tup, r_ktup, r_lst, v_tup, v_ktup, v_lst, t_vl, bl_s, t_nt, not_s, t_an, t_or, and_t, and_f, or_t, or_f, t_tr, tru_s, r_ife, ife_t, ife_f, r_app, app_s, r_aug, aug_s, r_ret, ret_v, ret_r, retB_s, r_par, a_nl, a_cn, cR_s, par_2, r_for, for_s, i_sq, seq_s, i_rg, rng_s, r_frz, frz_s, fin_rt, fin_nx, l_nil, bind_nm, bindR_s, step_nx, step_rt, initE, List.replicate, isBox, gLen, gInt, gMulI, gMod, gFdiv, gAdd, gSub, gCmpI, gIx, gIsN, isNon, seqD, cleanD, noBox, noBoxs]
    generalize hy : (x * x + x / 7 + k * 16807) % 2147483629 = y
    have hy0 : 0 ≤ y := by omega
    have hy1 : y < 2147483629 := by omega
    rw [if_pos (by omega)]
    simp [r_seq, r_seq_nx, r_seq_rt, r_seq_bk, r_seq_ct, r_nil, r_if, r_if_t, r_if_f, r_asg, r_asg_v, r_arg, r_c, r_var, r_var_0, r_var_s, r_bv, r_bv_s, v_c, v_bv, v_var, v_var_0, g1_s, g2_s, r_op1, r_op2, v_op1, v_op2, va_nil, va_cons, consR_s, gN_s, on1_s, r_call, v_call, fn_s, r_fn, v_fn, ow_nil, ow_cons, ownC_s, disp_s, r_tup, r_ktup, r_lst, v_tup, v_ktup, v_lst, t_vl, bl_s, t_nt, not_s, t_an, t_or, and_t, and_f, or_t, or_f, t_tr, tru_s, r_ife, ife_t, ife_f, r_app, app_s, r_aug, aug_s, r_ret, ret_v, ret_r, retB_s, r_par, a_nl, a_cn, cR_s, par_2, r_for, for_s, i_sq, seq_s, i_rg, rng_s, r_frz, frz_s, fin_rt, fin_nx, l_nil, bind_nm, bindR_s, step_nx, step_rt, initE, List.replicate, isBox, gLen, gInt, gMulI, gMod, gFdiv, gAdd, gSub, gCmpI, gIx, gIsN, isNon, seqD, cleanD, noBox, noBoxs]
    omega
  · simp [r_seq, r_seq_nx, r_seq_rt, r_seq_bk, r_seq_ct, r_nil, r_if, r_if_t, r_if_f, r_asg, r_asg_v, r_arg, r_c, r_var, r_var_0, r_var_s, r_bv, r_bv_s, v_c, v_bv, v_var, v_var_0, g1_s, g2_s, r_op1, r_op2, v_op1, v_op2, va_nil, va_cons, consR_s, gN_s, on1_s, r_call, v_call, fn_s, r_fn, v_fn, ow_nil, ow_cons, ownC_s, disp_s, r_tup, r_ktup, r_lst, v_tup, v_ktup, v_lst, t_vl, bl_s, t_nt, not_s, t_an, t_or, and_t, and_f, or_t, or_f, t_tr, tru_s, r_ife, ife_t, ife_f, r_app, app_s, r_aug, aug_s, r_ret, ret_v, ret_r, retB_s, r_par, a_nl, a_cn, cR_s, par_2, r_for, for_s, i_sq, seq_s, i_rg, rng_s, r_frz, frz_s, fin_rt, fin_nx, l_nil, bind_nm, bindR_s, step_nx, step_rt, initE, List.replicate, isBox, gLen, gInt, gMulI, gMod, gFdiv, gAdd, gSub, gCmpI, gIx, gIsN, isNon, seqD, cleanD, noBox, noBoxs, h]
    generalize hx : (k * 69621 + 8191) % 2147483647 = x
    have hx0 : 0 ≤ x := by omega
    have hx1 : x < 2147483647 := by omega
    rw [if_pos (by omega)]
    simp [r_seq, r_seq_nx, r_seq_rt, r_seq_bk, r_seq_ct, r_nil, r_if, r_if_t, r_if_f, r_asg, r_asg_v, r_arg, r_c, r_var, r_var_0, r_var_s, r_bv, r_bv_s, v_c, v_bv, v_var, v_var_0, g1_s, g2_s, r_op1, r_op2, v_op1, v_op2, va_nil, va_cons, consR_s, gN_s, on1_s, r_call, v_call, fn_s, r_fn, v_fn, ow_nil, ow_cons, ownC_s, disp_s, r_tup, r_ktup, r_lst, v_tup, v_ktup, v_lst, t_vl, bl_s, t_nt, not_s, t_an, t_or, and_t, and_f, or_t, or_f, t_tr, tru_s, r_ife, ife_t, ife_f, r_app, app_s, r_aug, aug_s, r_ret, ret_v, ret_r, retB_s, r_par, a_nl, a_cn, cR_s, par_2, r_for, for_s, i_sq, seq_s, i_rg, rng_s, r_frz, frz_s, fin_rt, fin_nx, l_nil, bind_nm, bindR_s, step_nx, step_rt, initE, List.replicate, isBox, gLen, gInt, gMulI, gMod, gFdiv, gAdd, gSub, gCmpI, gIx, gIsN, isNon, seqD, cleanD, noBox, noBoxs]
    generalize hy : (x * x + x / 7 + k * 16807) % 2147483629 = y
    have hy0 : 0 ≤ y := by omega
    have hy1 : y < 2147483629 := by omega
    rw [if_pos (by omega)]
    simp [r_seq, r_seq_nx, r_seq_rt, r_seq_bk, r_seq_ct, r_nil, r_if, r_if_t, r_if_f, r_asg, r_asg_v, r_arg, r_c, r_var, r_var_0, r_var_s, r_bv, r_bv_s, v_c, v_bv, v_var, v_var_0, g1_s, g2_s, r_op1, r_op2, v_op1, v_op2, va_nil, va_cons, consR_s, gN_s, on1_s, r_call, v_call, fn_s, r_fn, v_fn, ow_nil, ow_cons, ownC_s, disp_s, r_tup, r_ktup, r_lst, v_tup, v_ktup, v_lst, t_vl, bl_s, t_nt, not_s, t_an, t_or, and_t, and_f, or_t, or_f, t_tr, tru_s, r_ife, ife_t, ife_f, r_app, app_s, r_aug, aug_s, r_ret, ret_v, ret_r, retB_s, r_par, a_nl, a_cn, cR_s, par_2, r_for, for_s, i_sq, seq_s, i_rg, rng_s, r_frz, frz_s, fin_rt, fin_nx, l_nil, bind_nm, bindR_s, step_nx, step_rt, initE, List.replicate, isBox, gLen, gInt, gMulI, gMod, gFdiv, gAdd, gSub, gCmpI, gIx, gIsN, isNon, seqD, cleanD, noBox, noBoxs]
    omega
/-! the row -/
theorem rng_succ (lo : Int) (n : Nat) : rngD lo (n + 1) = .int lo :: rngD (lo + 1) n := by
  unfold rngD
  rw [List.range_succ_eq_map, List.map_cons, List.map_map]
  congr 1
  · simp
  · refine List.map_congr_left fun i _ => ?_
    simp only [Function.comp]
    congr 1
    omega
theorem row_loop (ns : List Int) (z : W) : ∀ (n : Nat) (lo : Int) (big : Int) (acc : List Int) (x : Option W), 0 ≤ lo → 0 ≤ big → (∀ c ∈ acc, 0 ≤ c) → acc.length + n ≤ 1000 →
    ∃ (cs : List Int) (big' : Int) (x' : Option W), cs.length = n ∧ (∀ c ∈ cs, 0 ≤ c) ∧ loopF (.nm 4) (sIf (bVal (pOp2 (gCmpI fun i j => decide (j < i)) (pBv 2) (pC (.int 0)))) (bSeq (sApp 3 (pOp2 gMod (pCall (on1 gInt) (aCons (pBv 2) aNil)) (pC (.int 1000)))) (sAsg 2 (pOp2 gFdiv (pBv 2) (pC (.int 1000))))) (sApp 3 (pFn m_law_mixed [] (aCons (pBv 0) (aCons (pBv 4) aNil)))))
      (rngD lo n) [some (0, .scr ns), some z, some (0, .int big), some (1, .lst (acc.map D.int)), x] = some (.nx, [some (0, .scr ns), some z, some (0, .int big'), some (1, .lst ((acc ++ cs).map D.int)), x'])
  | 0, lo, big, acc, x, _, _, _, _ => ⟨[], big, x, rfl, (fun c h => by cases h), by simp [rngD, l_nil]⟩
  | n + 1, lo, big, acc, x, h0, h1, h2, h3 => by
    rw [rng_succ, l_cons]
    have hl : acc.length < 1000000 := by omega
    by_cases hb : 0 < big
    · obtain ⟨cs, big', x', q1, q2, q3⟩ := row_loop ns z n (lo + 1) (big / 1000) (acc ++ [big % 1000]) (some (0, .int lo)) (by omega) (by omega) (fun c hc => by
        rcases List.mem_append.mp hc with q | q
        · exact h2 c q
        · simp at q; omega) (by simp; omega)
      refine ⟨big % 1000 :: cs, big', x', by simp [q1], fun c hc => ?_, ?_⟩
      · rcases List.mem_cons.mp hc with q | q
        · omega
        · exact q2 c q
      · simp [r_seq, r_seq_nx, r_seq_rt, r_seq_bk, r_seq_ct, r_nil, r_if, r_if_t, r_if_f, r_asg, r_asg_v, r_arg, r_c, r_var, r_var_0, r_var_s, r_bv, r_bv_s, v_c, v_bv, v_var, v_var_0, g1_s, g2_s, r_op1, r_op2, v_op1, v_op2, va_nil, va_cons, consR_s, gN_s, on1_s, r_call, v_call, fn_s, r_fn, v_fn, ow_nil, ow_cons, ownC_s, disp_s, r_tup, r_ktup, r_lst, v_tup, v_ktup, v_lst, t_vl, bl_s, t_nt, not_s, t_an, t_or, and_t, and_f, or_t, or_f, t_tr, tru_s, r_ife, ife_t, ife_f, r_app, app_s, r_aug, aug_s, r_ret, ret_v, ret_r, retB_s, r_par, a_nl, a_cn, cR_s, par_2, r_for, for_s, i_sq, seq_s, i_rg, rng_s, r_frz, frz_s, fin_rt, fin_nx, l_nil, bind_nm, bindR_s, step_nx, step_rt, initE, List.replicate, isBox, gLen, gInt, gMulI, gMod, gFdiv, gAdd, gSub, gCmpI, gIx, gIsN, isNon, seqD, cleanD, noBox, noBoxs, hb, Pv.big, hl]
        simpa using q3
    · obtain ⟨c0, hc0, hm⟩ := mixed ns lo h0
      obtain ⟨cs, big', x', q1, q2, q3⟩ := row_loop ns z n (lo + 1) big (acc ++ [c0]) (some (0, .int lo)) (by omega) h1 (fun c hc => by
        rcases List.mem_append.mp hc with q | q
        · exact h2 c q
        · simp at q; omega) (by simp; omega)
      refine ⟨c0 :: cs, big', x', by simp [q1], fun c hc => ?_, ?_⟩
      · rcases List.mem_cons.mp hc with q | q
        · omega
        · exact q2 c q
      · simp [r_seq, r_seq_nx, r_seq_rt, r_seq_bk, r_seq_ct, r_nil, r_if, r_if_t, r_if_f, r_asg, r_asg_v, r_arg, r_c, r_var, r_var_0, r_var_s, r_bv, r_bv_s, v_c, v_bv, v_var, v_var_0, g1_s, g2_s, r_op1, r_op2, v_op1, v_op2, va_nil, va_cons, consR_s, gN_s, on1_s, r_call, v_call, fn_s, r_fn, v_fn, ow_nil, ow_cons, ownC_s, disp_s, r_tup, r_ktup, r_lst, v_tup, v_ktup, v_lst, t_vl, bl_s, t_nt, not_s, t_an, t_or, and_t, and_f, or_t, or_f, t_tr, tru_s, r_ife, ife_t, ife_f, r_app, app_s, r_aug, aug_s, r_ret, ret_v, ret_r, retB_s, r_par, a_nl, a_cn, cR_s, par_2, r_for, for_s, i_sq, seq_s, i_rg, rng_s, r_frz, frz_s, fin_rt, fin_nx, l_nil, bind_nm, bindR_s, step_nx, step_rt, initE, List.replicate, isBox, gLen, gInt, gMulI, gMod, gFdiv, gAdd, gSub, gCmpI, gIx, gIsN, isNon, seqD, cleanD, noBox, noBoxs, hb, Pv.big, hl, hm]
        simpa using q3
theorem row (ns : List Int) : ∃ cs : List Int, cs.length = 32 ∧ (∀ c ∈ cs, 0 ≤ c) ∧ m_law_row [.scr ns, .int 32] = some (1, .lst (cs.map D.int)) := by
  rw [show m_law_row [.scr ns, .int 32] = finR (b_law_row (initE 5 [.scr ns, .int 32])) from r_m rfl]
  unfold b_law_row
  have key : ∀ big : Int, 0 ≤ big → ∃ cs : List Int, cs.length = 32 ∧ (∀ c ∈ cs, 0 ≤ c) ∧ finR (bSeq (sAsg 3 (pLst aNil)) (bSeq (sFor (iRange1 (pBv 1)) (.nm 4) (sIf (bVal (pOp2 (gCmpI fun i j => decide (j < i)) (pBv 2) (pC (.int 0)))) (bSeq (sApp 3 (pOp2 gMod (pCall (on1 gInt) (aCons (pBv 2) aNil)) (pC (.int 1000)))) (sAsg 2 (pOp2 gFdiv (pBv 2) (pC (.int 1000))))) (sApp 3 (pFn m_law_mixed [] (aCons (pBv 0) (aCons (pBv 4) aNil)))))) (sRet (pBv 3))) [some (0, .scr ns), some (0, .int 32), some (0, .int big), none, none]) = some (1, .lst (cs.map D.int)) := fun big hb => by
    obtain ⟨cs, big', x', q1, q2, q3⟩ := row_loop ns (0, .int 32) 32 0 big [] none (by omega) hb (fun c h => by cases h) (by decide)
    refine ⟨cs, q1, q2, ?_⟩
    simp only [List.map_nil, List.nil_append] at q3
    have hc : ∀ x ∈ cs.map D.int, cleanD 0 x = true := fun x hx => by
      obtain ⟨c, _, rfl⟩ := List.mem_map.mp hx
      rfl
    simp [r_seq, r_seq_nx, r_seq_rt, r_seq_bk, r_seq_ct, r_nil, r_if, r_if_t, r_if_f, r_asg, r_asg_v, r_arg, r_c, r_var, r_var_0, r_var_s, r_bv, r_bv_s, v_c, v_bv, v_var, v_var_0, g1_s, g2_s, r_op1, r_op2, v_op1, v_op2, va_nil, va_cons, consR_s, gN_s, on1_s, r_call, v_call, fn_s, r_fn, v_fn, ow_nil, ow_cons, ownC_s, disp_s, r_tup, r_ktup, r_lst, v_tup, v_ktup, v_lst, t_vl, bl_s, t_nt, not_s, t_an, t_or, and_t, and_f, or_t, or_f, t_tr, tru_s, r_ife, ife_t, ife_f, r_app, app_s, r_aug, aug_s, r_ret, ret_v, ret_r, retB_s, r_par, a_nl, a_cn, cR_s, par_2, r_for, for_s, i_sq, seq_s, i_rg, rng_s, r_frz, frz_s, fin_rt, fin_nx, l_nil, bind_nm, bindR_s, step_nx, step_rt, initE, List.replicate, isBox, gLen, gInt, gMulI, gMod, gFdiv, gAdd, gSub, gCmpI, gIx, gIsN, isNon, seqD, cleanD, noBox, noBoxs, q3]
  have hp : gPow (0, D.int 10) (0, D.int 18) = some (0, D.int 1000000000000000000) := by simp [gPow]
  by_cases h : 0 < ns.length
  · have hat := atI_some ns 0 h
    have hat : L2.atI ns 0 = some ns[0] := hat
    by_cases h2 : (1000000000000000000 : Int) ≤ ns[0]
    · obtain ⟨cs, q1, q2, q3⟩ := key ns[0] (by omega)
      refine ⟨cs, q1, q2, ?_⟩
      rw [← q3]
      simp [r_seq, r_seq_nx, r_seq_rt, r_seq_bk, r_seq_ct, r_nil, r_if, r_if_t, r_if_f, r_asg, r_asg_v, r_arg, r_c, r_var, r_var_0, r_var_s, r_bv, r_bv_s, v_c, v_bv, v_var, v_var_0, g1_s, g2_s, r_op1, r_op2, v_op1, v_op2, va_nil, va_cons, consR_s, gN_s, on1_s, r_call, v_call, fn_s, r_fn, v_fn, ow_nil, ow_cons, ownC_s, disp_s, r_tup, r_ktup, r_lst, v_tup, v_ktup, v_lst, t_vl, bl_s, t_nt, not_s, t_an, t_or, and_t, and_f, or_t, or_f, t_tr, tru_s, r_ife, ife_t, ife_f, r_app, app_s, r_aug, aug_s, r_ret, ret_v, ret_r, retB_s, r_par, a_nl, a_cn, cR_s, par_2, r_for, for_s, i_sq, seq_s, i_rg, rng_s, r_frz, frz_s, fin_rt, fin_nx, l_nil, bind_nm, bindR_s, step_nx, step_rt, initE, List.replicate, isBox, gLen, gInt, gMulI, gMod, gFdiv, gAdd, gSub, gCmpI, gIx, gIsN, isNon, seqD, cleanD, noBox, noBoxs, hp, h, hat, h2]
    · obtain ⟨cs, q1, q2, q3⟩ := key 0 (by omega)
      refine ⟨cs, q1, q2, ?_⟩
      rw [← q3]
      simp [r_seq, r_seq_nx, r_seq_rt, r_seq_bk, r_seq_ct, r_nil, r_if, r_if_t, r_if_f, r_asg, r_asg_v, r_arg, r_c, r_var, r_var_0, r_var_s, r_bv, r_bv_s, v_c, v_bv, v_var, v_var_0, g1_s, g2_s, r_op1, r_op2, v_op1, v_op2, va_nil, va_cons, consR_s, gN_s, on1_s, r_call, v_call, fn_s, r_fn, v_fn, ow_nil, ow_cons, ownC_s, disp_s, r_tup, r_ktup, r_lst, v_tup, v_ktup, v_lst, t_vl, bl_s, t_nt, not_s, t_an, t_or, and_t, and_f, or_t, or_f, t_tr, tru_s, r_ife, ife_t, ife_f, r_app, app_s, r_aug, aug_s, r_ret, ret_v, ret_r, retB_s, r_par, a_nl, a_cn, cR_s, par_2, r_for, for_s, i_sq, seq_s, i_rg, rng_s, r_frz, frz_s, fin_rt, fin_nx, l_nil, bind_nm, bindR_s, step_nx, step_rt, initE, List.replicate, isBox, gLen, gInt, gMulI, gMod, gFdiv, gAdd, gSub, gCmpI, gIx, gIsN, isNon, seqD, cleanD, noBox, noBoxs, hp, h, hat, h2]
  · obtain ⟨cs, q1, q2, q3⟩ := key 0 (by omega)
    refine ⟨cs, q1, q2, ?_⟩
    rw [← q3]
    simp [r_seq, r_seq_nx, r_seq_rt, r_seq_bk, r_seq_ct, r_nil, r_if, r_if_t, r_if_f, r_asg, r_asg_v, r_arg, r_c, r_var, r_var_0, r_var_s, r_bv, r_bv_s, v_c, v_bv, v_var, v_var_0, g1_s, g2_s, r_op1, r_op2, v_op1, v_op2, va_nil, va_cons, consR_s, gN_s, on1_s, r_call, v_call, fn_s, r_fn, v_fn, ow_nil, ow_cons, ownC_s, disp_s, r_tup, r_ktup, r_lst, v_tup, v_ktup, v_lst, t_vl, bl_s, t_nt, not_s, t_an, t_or, and_t, and_f, or_t, or_f, t_tr, tru_s, r_ife, ife_t, ife_f, r_app, app_s, r_aug, aug_s, r_ret, ret_v, ret_r, retB_s, r_par, a_nl, a_cn, cR_s, par_2, r_for, for_s, i_sq, seq_s, i_rg, rng_s, r_frz, frz_s, fin_rt, fin_nx, l_nil, bind_nm, bindR_s, step_nx, step_rt, initE, List.replicate, isBox, gLen, gInt, gMulI, gMod, gFdiv, gAdd, gSub, gCmpI, gIx, gIsN, isNon, seqD, cleanD, noBox, noBoxs, h]
end K40
set_option linter.all false
set_option maxRecDepth 100000
namespace K40
open PySem Pv
inductive Dd where
  | jp (b : Bool) (c : Nat)
  | dd (n : Int)
  | mk (c : Nat)
def nm (c : Nat) : Str := ⟨#[c]⟩
def kd (b : Bool) : Str := if b then "if" else "go"
def Dd.d : Dd → D
  | .jp b c => .tup [.str (kd b), .str (nm c)]
  | .dd n => .tup [.str "do", .int n]
  | .mk c => .tup [.str "mark", .str (nm c)]
theorem atI_int (cs : List Int) (j : Nat) (h : j < cs.length) : L2.atI (cs.map D.int) (j : Int) = some (.int cs[j]) := by
  rw [atI_some (cs.map D.int) j (by simpa using h)]
  simp
theorem rng_succN (lo n : Nat) : rngD (lo : Int) (n + 1) = .int (lo : Int) :: rngD ((lo + 1 : Nat) : Int) n := by
  rw [rng_succ]; rfl
theorem cut_take {α : Type} (xs : List α) (p : Nat) (h : p ≤ xs.length) : cutL xs none (some (p : Int)) = xs.take p := by
  unfold cutL
  rw [HT.sIx_none, HT.sIx_nat]
  simp
theorem cut_drop {α : Type} (xs : List α) (p : Nat) (h : p ≤ xs.length) : cutL xs (some (p : Int)) none = xs.drop p := by
  unfold cutL
  rw [HT.sIx_none, HT.sIx_nat]
  have e : min p xs.length = p := by omega
  rw [e]
  exact List.take_of_length_le (by simp)
structure Ok1 (cs : List Nat) (ds : List Dd) : Prop where
  tg : ∀ b c, Dd.jp b c ∈ ds → c ∈ cs
  sz : ∀ n, Dd.dd n ∈ ds → 0 ≤ n ∧ n < 13
  nm : ∀ c, Dd.mk c ∉ ds
def body1 : Fs := bSeq (sAsg 5 (pCall (on1 gInt) (aCons (pOp2 gIx (pBv 0) (pOp2 gAdd (pC (.int 1)) (pBv 4))) aNil))) (sIf (bAnd (bVal (pOp2 (gCmpI fun i j => decide (i < j)) (pOp2 gMod (pBv 5) (pC (.int 5))) (pC (.int 3)))) (bAnd (bVal (pOp2 (gCmpI fun i j => decide (i < j)) (pBv 3) (pC (.int 5)))) (bVal (pOp2 (gCmpI fun i j => decide (j < i)) (pCall (on1 gLen) (aCons (pBv 1) aNil)) (pC (.int 0)))))) (bSeq (sApp 2 (pTup (aCons (pOp2 gIx (pTup (aCons (pC (.str "go")) (aCons (pC (.str "if")) aNil))) (pOp2 gMod (pOp2 gFdiv (pBv 5) (pC (.int 5))) (pC (.int 2)))) (aCons (pOp2 gIx (pBv 1) (pOp2 gMod (pOp2 gFdiv (pBv 5) (pC (.int 10))) (pCall (on1 gLen) (aCons (pBv 1) aNil)))) aNil)))) (sAsg 3 (pOp2 gAdd (pBv 3) (pC (.int 1))))) (sApp 2 (pTup (aCons (pC (.str "do")) (aCons (pOp2 gMod (pOp2 gFdiv (pBv 5) (pC (.int 5))) (pC (.int 13))) aNil)))))
theorem kinds (x : Int) (h : 0 ≤ x) : ∃ b : Bool, L2.atI [D.str "go", D.str "if"] (x % 2) = some (.str (kd b)) := by
  have : x % 2 = 0 ∨ x % 2 = 1 := by omega
  rcases this with e | e
  · exact ⟨false, by rw [e]; rfl⟩
  · exact ⟨true, by rw [e]; rfl⟩
theorem deeds1 (cells : List Int) (cs : List Nat) (hp : ∀ c ∈ cells, 0 ≤ c) (hcs : cs.length ≤ 1000) : ∀ (n lo : Nat) (acc : List Dd) (jumps : Int) (x y z : Option W), lo + n < cells.length → Ok1 cs acc → acc.length + n ≤ 1000 →
    ∃ (ds : List Dd) (j' : Int) (x' y' : Option W), Ok1 cs ds ∧ ds.length = acc.length + n ∧ loopF (.nm 4) body1 (rngD lo n) [some (0, .lst (cells.map D.int)), some (0, .str ⟨cs.toArray⟩), some (1, .lst (acc.map Dd.d)), some (0, .int jumps), x, y, z] = some (.nx, [some (0, .lst (cells.map D.int)), some (0, .str ⟨cs.toArray⟩), some (1, .lst (ds.map Dd.d)), some (0, .int j'), x', y', z])
  | 0, lo, acc, jumps, x, y, z, _, ok, _ => ⟨acc, jumps, x, y, ok, by simp, by simp [rngD, l_nil]⟩
  | n + 1, lo, acc, jumps, x, y, z, hl, ok, ha => by
    rw [rng_succN, l_cons]
    have h1 : 1 + lo < cells.length := by omega
    have hat := atI_int cells (1 + lo) h1
    have hc : 0 ≤ cells[1 + lo] := hp _ (List.getElem_mem h1)
    have e1 : ((1 + lo : Nat) : Int) = 1 + (lo : Int) := by omega
    rw [e1] at hat
    generalize cells[1 + lo] = cell at hat hc
    have hb : acc.length < 1000000 := by omega
    by_cases c1 : cell % 5 < 3 ∧ jumps < 5 ∧ 0 < cs.length
    · obtain ⟨c1, c2, c3⟩ := c1
      obtain ⟨b, hk⟩ := kinds (cell / 5) (by omega)
      have hn : 0 ≤ cell / 10 % (cs.length : Int) := Int.emod_nonneg _ (by omega)
      have hl2 : cell / 10 % (cs.length : Int) < cs.length := Int.emod_lt_of_pos _ (by omega)
      obtain ⟨j, hj⟩ := Int.eq_ofNat_of_zero_le hn
      have hat2 := atI_some cs j (by omega)
      rw [← hj] at hat2
      have hz : cs.length ≤ 1000000 := by omega
      obtain ⟨ds, j', x', y', q1, q2, q3⟩ := deeds1 cells cs hp hcs n (lo + 1) (acc ++ [.jp b cs[j]]) (jumps + 1) (some (0, .int (lo : Int))) (some (0, .int cell)) z (by omega) ⟨fun b' c' h => by
        rcases List.mem_append.mp h with h | h
        · exact ok.tg _ _ h
        · simp at h; rw [h.2]; exact List.getElem_mem _, fun m h => by
        rcases List.mem_append.mp h with h | h
        · exact ok.sz _ h
        · simp at h, fun c h => by
        rcases List.mem_append.mp h with h | h
        · exact ok.nm _ h
        · simp at h⟩ (by simp; omega)
      refine ⟨ds, j', x', y', q1, by simp at q2; omega, ?_⟩
      unfold body1
      simp [i_zp, zip_s, zipQ_s, i_en, en_s, enQ_s, r_put, put_s, r_kg2, kg2_s, i_lc, lcI_s, r_seq, r_seq_nx, r_seq_rt, r_seq_bk, r_seq_ct, r_nil, r_if, r_if_t, r_if_f, r_asg, r_asg_v, r_arg, r_c, r_var, r_var_0, r_var_s, r_bv, r_bv_s, v_c, v_bv, v_var, v_var_0, g1_s, g2_s, r_op1, r_op2, v_op1, v_op2, va_nil, va_cons, consR_s, gN_s, on1_s, r_call, v_call, fn_s, r_fn, v_fn, ow_nil, ow_cons, ownC_s, disp_s, r_tup, r_ktup, r_lst, v_tup, v_ktup, v_lst, t_vl, bl_s, t_nt, not_s, t_an, t_or, and_t, and_f, or_t, or_f, t_tr, tru_s, r_ife, ife_t, ife_f, r_app, app_s, r_aug, aug_s, r_ret, ret_v, ret_r, retB_s, r_par, a_nl, a_cn, cR_s, par_2, r_for, for_s, i_sq, seq_s, i_rg, rng_s, r_frz, frz_s, fin_rt, fin_nx, l_nil, bind_nm, bindR_s, step_nx, step_rt, initE, List.replicate, isBox, gLen, gInt, gMulI, gMod, gFdiv, gAdd, gSub, gCmpI, gIx, gIsN, isNon, seqD, cleanD, noBox, noBoxs, hat, hk, hat2, c1, c2, c3, Pv.big, hb, hz, Str.length]
      simpa [body1, Dd.d, nm] using q3
    · obtain ⟨ds, j', x', y', q1, q2, q3⟩ := deeds1 cells cs hp hcs n (lo + 1) (acc ++ [.dd (cell / 5 % 13)]) jumps (some (0, .int (lo : Int))) (some (0, .int cell)) z (by omega) ⟨fun b' c' h => by
        rcases List.mem_append.mp h with h | h
        · exact ok.tg _ _ h
        · simp at h, fun m h => by
        rcases List.mem_append.mp h with h | h
        · exact ok.sz _ h
        · simp at h; omega, fun c h => by
        rcases List.mem_append.mp h with h | h
        · exact ok.nm _ h
        · simp at h⟩ (by simp; omega)
      refine ⟨ds, j', x', y', q1, by simp at q2; omega, ?_⟩
      have hz : cs.length ≤ 1000000 := by omega
      unfold body1
      by_cases d1 : cell % 5 < 3
      · by_cases d2 : jumps < 5
        · have d3 : ¬ 0 < cs.length := fun h => c1 ⟨d1, d2, h⟩
          simp [i_zp, zip_s, zipQ_s, i_en, en_s, enQ_s, r_put, put_s, r_kg2, kg2_s, i_lc, lcI_s, r_seq, r_seq_nx, r_seq_rt, r_seq_bk, r_seq_ct, r_nil, r_if, r_if_t, r_if_f, r_asg, r_asg_v, r_arg, r_c, r_var, r_var_0, r_var_s, r_bv, r_bv_s, v_c, v_bv, v_var, v_var_0, g1_s, g2_s, r_op1, r_op2, v_op1, v_op2, va_nil, va_cons, consR_s, gN_s, on1_s, r_call, v_call, fn_s, r_fn, v_fn, ow_nil, ow_cons, ownC_s, disp_s, r_tup, r_ktup, r_lst, v_tup, v_ktup, v_lst, t_vl, bl_s, t_nt, not_s, t_an, t_or, and_t, and_f, or_t, or_f, t_tr, tru_s, r_ife, ife_t, ife_f, r_app, app_s, r_aug, aug_s, r_ret, ret_v, ret_r, retB_s, r_par, a_nl, a_cn, cR_s, par_2, r_for, for_s, i_sq, seq_s, i_rg, rng_s, r_frz, frz_s, fin_rt, fin_nx, l_nil, bind_nm, bindR_s, step_nx, step_rt, initE, List.replicate, isBox, gLen, gInt, gMulI, gMod, gFdiv, gAdd, gSub, gCmpI, gIx, gIsN, isNon, seqD, cleanD, noBox, noBoxs, hat, d1, d2, d3, Pv.big, hb, hz, Str.length]
          simpa [body1, Dd.d, nm] using q3
        · simp [i_zp, zip_s, zipQ_s, i_en, en_s, enQ_s, r_put, put_s, r_kg2, kg2_s, i_lc, lcI_s, r_seq, r_seq_nx, r_seq_rt, r_seq_bk, r_seq_ct, r_nil, r_if, r_if_t, r_if_f, r_asg, r_asg_v, r_arg, r_c, r_var, r_var_0, r_var_s, r_bv, r_bv_s, v_c, v_bv, v_var, v_var_0, g1_s, g2_s, r_op1, r_op2, v_op1, v_op2, va_nil, va_cons, consR_s, gN_s, on1_s, r_call, v_call, fn_s, r_fn, v_fn, ow_nil, ow_cons, ownC_s, disp_s, r_tup, r_ktup, r_lst, v_tup, v_ktup, v_lst, t_vl, bl_s, t_nt, not_s, t_an, t_or, and_t, and_f, or_t, or_f, t_tr, tru_s, r_ife, ife_t, ife_f, r_app, app_s, r_aug, aug_s, r_ret, ret_v, ret_r, retB_s, r_par, a_nl, a_cn, cR_s, par_2, r_for, for_s, i_sq, seq_s, i_rg, rng_s, r_frz, frz_s, fin_rt, fin_nx, l_nil, bind_nm, bindR_s, step_nx, step_rt, initE, List.replicate, isBox, gLen, gInt, gMulI, gMod, gFdiv, gAdd, gSub, gCmpI, gIx, gIsN, isNon, seqD, cleanD, noBox, noBoxs, hat, d1, d2, Pv.big, hb, hz, Str.length]
          simpa [body1, Dd.d, nm] using q3
      · simp [i_zp, zip_s, zipQ_s, i_en, en_s, enQ_s, r_put, put_s, r_kg2, kg2_s, i_lc, lcI_s, r_seq, r_seq_nx, r_seq_rt, r_seq_bk, r_seq_ct, r_nil, r_if, r_if_t, r_if_f, r_asg, r_asg_v, r_arg, r_c, r_var, r_var_0, r_var_s, r_bv, r_bv_s, v_c, v_bv, v_var, v_var_0, g1_s, g2_s, r_op1, r_op2, v_op1, v_op2, va_nil, va_cons, consR_s, gN_s, on1_s, r_call, v_call, fn_s, r_fn, v_fn, ow_nil, ow_cons, ownC_s, disp_s, r_tup, r_ktup, r_lst, v_tup, v_ktup, v_lst, t_vl, bl_s, t_nt, not_s, t_an, t_or, and_t, and_f, or_t, or_f, t_tr, tru_s, r_ife, ife_t, ife_f, r_app, app_s, r_aug, aug_s, r_ret, ret_v, ret_r, retB_s, r_par, a_nl, a_cn, cR_s, par_2, r_for, for_s, i_sq, seq_s, i_rg, rng_s, r_frz, frz_s, fin_rt, fin_nx, l_nil, bind_nm, bindR_s, step_nx, step_rt, initE, List.replicate, isBox, gLen, gInt, gMulI, gMod, gFdiv, gAdd, gSub, gCmpI, gIx, gIsN, isNon, seqD, cleanD, noBox, noBoxs, hat, d1, Pv.big, hb, hz, Str.length]
        simpa [body1, Dd.d, nm] using q3
structure Ok2 (ds : List Dd) : Prop where
  tg : ∀ b c, Dd.jp b c ∈ ds → Dd.mk c ∈ ds
  sz : ∀ n, Dd.dd n ∈ ds → 0 ≤ n ∧ n < 17
  ln : ds.length ≤ 10
  ck : ∀ c, Dd.mk c ∈ ds → PyData.strOk (nm c) = true
def body2 : Fs := bSeq (sAsg 6 (pOp2 gMod (pCall (on1 gInt) (aCons (pOp2 gIx (pBv 0) (pOp2 gAdd (pC (.int 9)) (pBv 4))) aNil)) (pOp2 gAdd (pCall (on1 gLen) (aCons (pBv 2) aNil)) (pC (.int 1))))) (sAsg 2 (pOp2 gAdd (pOp2 gAdd (pSl (pBv 2) oNone (oSome (pBv 6))) (pLst (aCons (pTup (aCons (pC (.str "mark")) (aCons (pOp2 gIx (pBv 1) (pBv 4)) aNil))) aNil))) (pSl (pBv 2) (oSome (pBv 6)) oNone)))
theorem v_slT {A B : Fe} {ρ : Pv.Env} {ds : List D} {k j : Nat} {p : Nat} (h : val A ρ = some (k, .lst ds)) (hk : k ≤ 1) (h2 : val B ρ = some (j, .int (p : Int))) (hp : p ≤ ds.length) : val (pSl A oNone (oSome B)) ρ = some (1, .lst (ds.take p)) := by
  unfold val
  have e : pSl A oNone (oSome B) ρ = some (.v 1 (.lst (ds.take p))) := by
    unfold pSl
    rw [h]
    dsimp only [Option.bind_some, oNone]
    unfold oSome
    rw [h2]
    dsimp only [Option.bind_some]
    unfold gSl
    dsimp only
    rw [if_pos hk, cut_take ds p hp]
    rfl
  rw [e]; rfl
theorem v_slD {A B : Fe} {ρ : Pv.Env} {ds : List D} {k j : Nat} {p : Nat} (h : val A ρ = some (k, .lst ds)) (hk : k ≤ 1) (h2 : val B ρ = some (j, .int (p : Int))) (hp : p ≤ ds.length) : val (pSl A (oSome B) oNone) ρ = some (1, .lst (ds.drop p)) := by
  unfold val
  have e : pSl A (oSome B) oNone ρ = some (.v 1 (.lst (ds.drop p))) := by
    unfold pSl
    rw [h]
    dsimp only [Option.bind_some, oNone]
    unfold oSome
    rw [h2]
    dsimp only [Option.bind_some]
    unfold gSl
    dsimp only
    rw [if_pos hk, cut_drop ds p hp]
    rfl
  rw [e]; rfl
theorem deeds2 (cells : List Int) (cs : List Nat) (hp : ∀ c ∈ cells, 0 ≤ c) (hcs : cs.length ≤ 1000) (j : W) : ∀ (n lo : Nat) (acc : List Dd) (x y z : Option W), 9 + lo + n ≤ cells.length → lo + n = cs.length → acc.length + n ≤ 1000 →
    ∃ (ds : List Dd) (x' z' : Option W), (∀ d, d ∈ acc → d ∈ ds) ∧ (∀ d, d ∈ ds → d ∈ acc ∨ ∃ c ∈ cs, d = .mk c) ∧ (∀ c ∈ cs.drop lo, Dd.mk c ∈ ds) ∧ ds.length = acc.length + n ∧
      loopF (.nm 4) body2 (rngD lo n) [some (0, .lst (cells.map D.int)), some (0, .str ⟨cs.toArray⟩), some (1, .lst (acc.map Dd.d)), some j, x, y, z] = some (.nx, [some (0, .lst (cells.map D.int)), some (0, .str ⟨cs.toArray⟩), some (1, .lst (ds.map Dd.d)), some j, x', y, z'])
  | 0, lo, acc, x, y, z, _, h2, _ => ⟨acc, x, z, (fun d h => h), (fun d h => .inl h), (fun c hc => by rw [List.drop_of_length_le (by omega)] at hc; cases hc), rfl, by simp [rngD, l_nil]⟩
  | n + 1, lo, acc, x, y, z, hl, h2, ha => by
    rw [rng_succN, l_cons]
    have h1 : 9 + lo < cells.length := by omega
    have hat := atI_int cells (9 + lo) h1
    have hc : 0 ≤ cells[9 + lo] := hp _ (List.getElem_mem h1)
    have e1 : ((9 + lo : Nat) : Int) = 9 + (lo : Int) := by omega
    rw [e1] at hat
    generalize cells[9 + lo] = cell at hat hc
    have hat2 := atI_some cs lo (by omega)
    have hn : 0 ≤ cell % ((acc.length : Int) + 1) := Int.emod_nonneg _ (by omega)
    have hl2 : cell % ((acc.length : Int) + 1) < (acc.length : Int) + 1 := Int.emod_lt_of_pos _ (by omega)
    obtain ⟨p, hj⟩ := Int.eq_ofNat_of_zero_le hn
    have hpl : p ≤ acc.length := by omega
    have hz : cs.length ≤ 1000000 := by omega
    have hpos : (0 : Int) < (acc.length : Int) + 1 := by omega
    let acc' := acc.take p ++ [Dd.mk cs[lo]] ++ acc.drop p
    have hlen : acc'.length = acc.length + 1 := by simp [acc']; omega
    have hmem : ∀ d, d ∈ acc' ↔ d ∈ acc ∨ d = .mk cs[lo] := fun d => by
      have : d ∈ acc ↔ d ∈ acc.take p ∨ d ∈ acc.drop p := by rw [← List.mem_append, List.take_append_drop]
      simp only [acc', List.mem_append, List.mem_singleton]
      rw [this]
      constructor
      · rintro ((h | h) | h)
        · exact .inl (.inl h)
        · exact .inr h
        · exact .inl (.inr h)
      · rintro ((h | h) | h)
        · exact .inl (.inl h)
        · exact .inr h
        · exact .inl (.inr h)
    obtain ⟨ds, x', z', q1, q2, q3, q4, q5⟩ := deeds2 cells cs hp hcs j n (lo + 1) acc' (some (0, .int (lo : Int))) y (some (0, .int (p : Int))) (by omega) (by omega) (by omega)
    refine ⟨ds, x', z', fun d h => q1 d ((hmem d).mpr (.inl h)), fun d h => ?_, fun c hc => ?_, by omega, ?_⟩
    · rcases q2 d h with h | h
      · rcases (hmem d).mp h with h | h
        · exact .inl h
        · exact .inr ⟨_, List.getElem_mem _, h⟩
      · exact .inr h
    · rw [List.drop_eq_getElem_cons (by omega)] at hc
      rcases List.mem_cons.mp hc with h | h
      · rw [h]; exact q1 _ ((hmem _).mpr (.inr rfl))
      · exact q3 c h
    · have vs1 : ∀ (ρ : Pv.Env), ρ[2]?.join = some (1, D.lst (acc.map Dd.d)) → ρ[6]?.join = some (0, D.int (p : Int)) → val (pSl (pBv 2) oNone (oSome (pBv 6))) ρ = some (1, .lst ((acc.map Dd.d).take p)) := fun ρ a b => v_slT (k := 1) (by rw [v_bv]; exact a) (by decide) (by rw [v_bv]; exact b) (by simpa using hpl)
      have vs2 : ∀ (ρ : Pv.Env), ρ[2]?.join = some (1, D.lst (acc.map Dd.d)) → ρ[6]?.join = some (0, D.int (p : Int)) → val (pSl (pBv 2) (oSome (pBv 6)) oNone) ρ = some (1, .lst ((acc.map Dd.d).drop p)) := fun ρ a b => v_slD (k := 1) (by rw [v_bv]; exact a) (by decide) (by rw [v_bv]; exact b) (by simpa using hpl)
      have hadd : (min p acc.length + 1) + (acc.length - p) ≤ 1000000 := by omega
      have hadd2 : min p acc.length + 1 ≤ 1000000 := by omega
      unfold body2
      simp [i_zp, zip_s, zipQ_s, i_en, en_s, enQ_s, r_put, put_s, r_kg2, kg2_s, i_lc, lcI_s, r_seq, r_seq_nx, r_seq_rt, r_seq_bk, r_seq_ct, r_nil, r_if, r_if_t, r_if_f, r_asg, r_asg_v, r_arg, r_c, r_var, r_var_0, r_var_s, r_bv, r_bv_s, v_c, v_bv, v_var, v_var_0, g1_s, g2_s, r_op1, r_op2, v_op1, v_op2, va_nil, va_cons, consR_s, gN_s, on1_s, r_call, v_call, fn_s, r_fn, v_fn, ow_nil, ow_cons, ownC_s, disp_s, r_tup, r_ktup, r_lst, v_tup, v_ktup, v_lst, t_vl, bl_s, t_nt, not_s, t_an, t_or, and_t, and_f, or_t, or_f, t_tr, tru_s, r_ife, ife_t, ife_f, r_app, app_s, r_aug, aug_s, r_ret, ret_v, ret_r, retB_s, r_par, a_nl, a_cn, cR_s, par_2, r_for, for_s, i_sq, seq_s, i_rg, rng_s, r_frz, frz_s, fin_rt, fin_nx, l_nil, bind_nm, bindR_s, step_nx, step_rt, initE, List.replicate, isBox, gLen, gInt, gMulI, gMod, gFdiv, gAdd, gSub, gCmpI, gIx, gIsN, isNon, seqD, cleanD, noBox, noBoxs, hat, hat2, hj, hpos, hz, Str.length, vs1, vs2, Pv.big, hadd, hadd2]
      simpa [body2, Dd.d, nm, acc'] using q5
end K40
set_option linter.all false
set_option maxRecDepth 100000
namespace K40
open PySem Pv
theorem clean_d (d : Dd) : noBox d.d = true := by cases d <;> rfl
theorem clean_ds : ∀ ds : List Dd, noBoxs (ds.map Dd.d) = true
  | [] => rfl
  | d :: ds => by
    show (noBox d.d && noBoxs (ds.map Dd.d)) = true
    rw [clean_d, clean_ds ds]; rfl
theorem clean_ints : ∀ cs : List Int, noBoxs (cs.map D.int) = true
  | [] => rfl
  | c :: cs => by
    show (noBox (.int c) && noBoxs (cs.map D.int)) = true
    rw [clean_ints cs]; rfl
theorem deeds (cells : List Int) (cs : List Nat) (hp : ∀ c ∈ cells, 0 ≤ c) (h13 : 13 ≤ cells.length) (hcs : cs.length ≤ 3) (hck : ∀ c ∈ cs, PyData.strOk (nm c) = true) : ∃ ds : List Dd, Ok2 ds ∧ m_law_deeds [.lst (cells.map D.int), .str ⟨cs.toArray⟩] = some (0, .ktp (ds.map Dd.d)) := by
  rw [show m_law_deeds [.lst (cells.map D.int), .str ⟨cs.toArray⟩] = finR (b_law_deeds (initE 7 [.lst (cells.map D.int), .str ⟨cs.toArray⟩])) from r_m rfl]
  have hat := atI_int cells 0 (by omega)
  have hc : 0 ≤ cells[0] := hp _ (List.getElem_mem _)
  generalize cells[0] = c0 at hat hc
  have hat : L2.atI (cells.map D.int) 0 = some (.int c0) := hat
  obtain ⟨n, hn⟩ := Int.eq_ofNat_of_zero_le (show 0 ≤ c0 % 8 by omega)
  have hn7 : n ≤ 7 := by omega
  obtain ⟨ds, j', x', y', q1, q2, q3⟩ := deeds1 cells cs hp (by omega) n 0 [] 0 none none none (by omega) ⟨(fun b c h => by cases h), (fun m h => by cases h), (fun c h => by cases h)⟩ (by simp; omega)
  obtain ⟨ds2, x2, z2, p1, p2, p3, p4, p5⟩ := deeds2 cells cs hp (by omega) (0, .int j') cs.length 0 ds x' y' none (by omega) (by omega) (by simp at q2; omega)
  refine ⟨ds2, ⟨fun b c h => ?_, fun m h => ?_, by simp at q2; omega, fun c h => ?_⟩, ?_⟩
  · rcases p2 _ h with h | ⟨c', _, h⟩
    · exact p3 c (by simpa using q1.tg b c h)
    · cases h
  · rcases p2 _ h with h | ⟨c', _, h⟩
    · exact ⟨(q1.sz m h).1, by have := (q1.sz m h).2; omega⟩
    · cases h
  · rcases p2 _ h with h | ⟨c', hc', h⟩
    · exact absurd h (q1.nm c)
    · cases h; exact hck _ hc'
  · have hr : -1000000000 ≤ (n : Int) ∧ (n : Int) ≤ 1000000000 := by omega
    have hr2 : -1000000000 ≤ (cs.length : Int) ∧ (cs.length : Int) ≤ 1000000000 := by omega
    have hz : cs.length ≤ 1000000 := by omega
    have hcl := clean_ds ds2
    have q3' : loopF (.nm 4) body1 (rngD 0 n) [some (0, .lst (cells.map D.int)), some (0, .str ⟨cs.toArray⟩), some (1, .lst []), some (0, .int 0), none, none, none] = _ := q3
    have p5' : loopF (.nm 4) body2 (rngD 0 cs.length) _ = _ := p5
    unfold body1 at q3'
    unfold body2 at p5'
    unfold b_law_deeds
    simp [i_zp, zip_s, zipQ_s, i_en, en_s, enQ_s, r_put, put_s, r_kg2, kg2_s, i_lc, lcI_s, r_seq, r_seq_nx, r_seq_rt, r_seq_bk, r_seq_ct, r_nil, r_if, r_if_t, r_if_f, r_asg, r_asg_v, r_arg, r_c, r_var, r_var_0, r_var_s, r_bv, r_bv_s, v_c, v_bv, v_var, v_var_0, g1_s, g2_s, r_op1, r_op2, v_op1, v_op2, va_nil, va_cons, consR_s, gN_s, on1_s, r_call, v_call, fn_s, r_fn, v_fn, ow_nil, ow_cons, ownC_s, disp_s, r_tup, r_ktup, r_lst, v_tup, v_ktup, v_lst, t_vl, bl_s, t_nt, not_s, t_an, t_or, and_t, and_f, or_t, or_f, t_tr, tru_s, r_ife, ife_t, ife_f, r_app, app_s, r_aug, aug_s, r_ret, ret_v, ret_r, retB_s, r_par, a_nl, a_cn, cR_s, par_2, r_for, for_s, i_sq, seq_s, i_rg, rng_s, r_frz, frz_s, fin_rt, fin_nx, l_nil, bind_nm, bindR_s, step_nx, step_rt, initE, List.replicate, isBox, gLen, gInt, gMulI, gMod, gFdiv, gAdd, gSub, gCmpI, gIx, gIsN, isNon, seqD, cleanD, noBox, noBoxs, hat, hn, hr, q3', hr2, hz, Str.length, Pv.big, p5', gKTupOf, listD, hcl]
end K40
set_option linter.all false
set_option maxRecDepth 100000
namespace K40
open PySem Pv
theorem cl0 (d : D) : cleanD 0 d = noBox d := by cases d <;> rfl
theorem sq_l (ds : List D) : seqD (.lst ds) = some (true, ds) := rfl
theorem sq_t (ds : List D) : seqD (.tup ds) = some (false, ds) := rfl
theorem sq_k (ds : List D) : seqD (.ktp ds) = some (false, ds) := rfl
theorem at0 {α : Type} (x : α) (xs : List α) : L2.atI (x :: xs) 0 = some x := atI_some (x :: xs) 0 (by simp)
theorem at1 {α : Type} (x y : α) (xs : List α) : L2.atI (x :: y :: xs) 1 = some y := atI_some (x :: y :: xs) 1 (by simp)
theorem gEq_str (k l : Nat) (a b : Str) : gEq (k, .str a) (l, .str b) = some (0, .bl (decide (a = b))) := by
  simp [gEq, eqOk, isBox, gEqD, gEqS]
theorem nm_inj {c c' : Nat} : nm c = nm c' ↔ c = c' := by
  unfold nm
  simp
theorem kd_mark (b : Bool) : (kd b = "mark") = False := by cases b <;> simp [kd] <;> decide
theorem kd_do (b : Bool) : (kd b = "do") = False := by cases b <;> simp [kd] <;> decide
theorem do_mark : (("do" : Str) = "mark") = False := by simp; decide
theorem mark_do : (("mark" : Str) = "do") = False := by simp; decide
/-! places -/
def placesFrom : Int → List Int → List Int
  | _, [] => []
  | p, n :: ns => p :: placesFrom (p + n) ns
theorem places_len : ∀ (p : Int) (t : List Int), (placesFrom p t).length = t.length
  | _, [] => rfl
  | p, n :: t => by simp [placesFrom, places_len]
theorem lp_loop (z : W) : ∀ (ns : List Int) (acc : List D) (p : Int) (x : Option W), acc.length + ns.length ≤ 1000 →
    ∃ p' x', loopF (.nm 3) (bSeq (sApp 1 (pVar 2)) (sAsg 2 (pOp2 gAdd (pBv 2) (pBv 3)))) (ns.map D.int) [some z, some (1, .lst acc), some (0, .int p), x] = some (.nx, [some z, some (1, .lst (acc ++ (placesFrom p ns).map D.int)), some (0, .int p'), x'])
  | [], acc, p, x, _ => ⟨p, x, by simp [l_nil, placesFrom]⟩
  | n :: ns, acc, p, x, h => by
    obtain ⟨p', x', ih⟩ := lp_loop z ns (acc ++ [.int p]) (p + n) (some (0, .int n)) (by simp at h ⊢; omega)
    refine ⟨p', x', ?_⟩
    have hl : acc.length < 1000000 := by simp at h; omega
    rw [List.map_cons, l_cons]
    simp [i_zp, zip_s, zipQ_s, i_en, en_s, enQ_s, r_put, put_s, r_kg2, kg2_s, i_lc, lcI_s, r_seq, r_seq_nx, r_seq_rt, r_seq_bk, r_seq_ct, r_nil, r_if, r_if_t, r_if_f, r_asg, r_asg_v, r_arg, r_c, r_var, r_var_0, r_var_s, r_bv, r_bv_s, v_c, v_bv, v_var, v_var_0, g1_s, g2_s, r_op1, r_op2, v_op1, v_op2, va_nil, va_cons, consR_s, gN_s, on1_s, r_call, v_call, fn_s, r_fn, v_fn, ow_nil, ow_cons, ownC_s, disp_s, r_tup, r_ktup, r_lst, v_tup, v_ktup, v_lst, t_vl, bl_s, t_nt, not_s, t_an, t_or, and_t, and_f, or_t, or_f, t_tr, tru_s, r_ife, ife_t, ife_f, r_app, app_s, r_aug, aug_s, r_ret, ret_v, ret_r, retB_s, r_par, a_nl, a_cn, cR_s, par_2, r_for, for_s, i_sq, seq_s, i_rg, rng_s, r_frz, frz_s, fin_rt, fin_nx, l_nil, bind_nm, bindR_s, step_nx, step_rt, initE, List.replicate, isBox, gLen, gInt, gMulI, gMod, gFdiv, gAdd, gSub, gCmpI, gIx, gIsN, isNon, sq_l, sq_t, sq_k, cleanD, noBox, noBoxs, hl, Pv.big, placesFrom]
    simpa using ih
theorem law_places (s : D) (bb : Bool) (t : List Int) (hs : seqD s = some (bb, t.map D.int)) (hl : t.length ≤ 1000) : m_law_places [s] = some (1, .lst ((placesFrom 0 t).map D.int)) := by
  rw [show m_law_places [s] = finR (b_law_places (initE 4 [s])) from r_m rfl]
  obtain ⟨p', x', h⟩ := lp_loop (0, s) t [] 0 none (by simpa using hl)
  unfold b_law_places
  simp only [List.nil_append] at h
  simp [i_zp, zip_s, zipQ_s, i_en, en_s, enQ_s, r_put, put_s, r_kg2, kg2_s, i_lc, lcI_s, r_seq, r_seq_nx, r_seq_rt, r_seq_bk, r_seq_ct, r_nil, r_if, r_if_t, r_if_f, r_asg, r_asg_v, r_arg, r_c, r_var, r_var_0, r_var_s, r_bv, r_bv_s, v_c, v_bv, v_var, v_var_0, g1_s, g2_s, r_op1, r_op2, v_op1, v_op2, va_nil, va_cons, consR_s, gN_s, on1_s, r_call, v_call, fn_s, r_fn, v_fn, ow_nil, ow_cons, ownC_s, disp_s, r_tup, r_ktup, r_lst, v_tup, v_ktup, v_lst, t_vl, bl_s, t_nt, not_s, t_an, t_or, and_t, and_f, or_t, or_f, t_tr, tru_s, r_ife, ife_t, ife_f, r_app, app_s, r_aug, aug_s, r_ret, ret_v, ret_r, retB_s, r_par, a_nl, a_cn, cR_s, par_2, r_for, for_s, i_sq, seq_s, i_rg, rng_s, r_frz, frz_s, fin_rt, fin_nx, l_nil, bind_nm, bindR_s, step_nx, step_rt, initE, List.replicate, isBox, gLen, gInt, gMulI, gMod, gFdiv, gAdd, gSub, gCmpI, gIx, gIsN, isNon, sq_l, sq_t, sq_k, cleanD, noBox, noBoxs, hs, h]
theorem po_loop (z y : W) : ∀ (ns : List Int) (ds acc : List D) (p : Int) (x x2 : Option W), ds.length = ns.length → acc.length + ns.length ≤ 1000 →
    ∃ p' x' x2', loopF (.tp [.nm 4, .nm 5]) (bSeq (sApp 2 (pVar 3)) (sAug 3 gAddI (pBv 5))) (zipF ds (ns.map D.int)) [some z, some y, some (1, .lst acc), some (0, .int p), x, x2] = some (.nx, [some z, some y, some (1, .lst (acc ++ (placesFrom p ns).map D.int)), some (0, .int p'), x', x2'])
  | [], ds, acc, p, x, x2, h0, _ => by
    obtain rfl := List.eq_nil_of_length_eq_zero h0
    exact ⟨p, x, x2, by simp [l_nil, placesFrom, zipF]⟩
  | n :: ns, [], acc, p, x, x2, h0, h => by simp at h0
  | n :: ns, d :: ds, acc, p, x, x2, h0, h => by
    obtain ⟨p', x', x2', ih⟩ := po_loop z y ns ds (acc ++ [.int p]) (p + n) (some (0, d)) (some (0, .int n)) (by simpa using h0) (by simp at h ⊢; omega)
    refine ⟨p', x', x2', ?_⟩
    have hl : acc.length < 1000000 := by simp at h; omega
    rw [List.map_cons, zipF, l_cons]
    simp [i_zp, zip_s, zipQ_s, i_en, en_s, enQ_s, r_put, put_s, r_kg2, kg2_s, i_lc, lcI_s, r_seq, r_seq_nx, r_seq_rt, r_seq_bk, r_seq_ct, r_nil, r_if, r_if_t, r_if_f, r_asg, r_asg_v, r_arg, r_c, r_var, r_var_0, r_var_s, r_bv, r_bv_s, v_c, v_bv, v_var, v_var_0, g1_s, g2_s, r_op1, r_op2, v_op1, v_op2, va_nil, va_cons, consR_s, gN_s, on1_s, r_call, v_call, fn_s, r_fn, v_fn, ow_nil, ow_cons, ownC_s, disp_s, r_tup, r_ktup, r_lst, v_tup, v_ktup, v_lst, t_vl, bl_s, t_nt, not_s, t_an, t_or, and_t, and_f, or_t, or_f, t_tr, tru_s, r_ife, ife_t, ife_f, r_app, app_s, r_aug, aug_s, r_ret, ret_v, ret_r, retB_s, r_par, a_nl, a_cn, cR_s, par_2, r_for, for_s, i_sq, seq_s, i_rg, rng_s, r_frz, frz_s, fin_rt, fin_nx, l_nil, bind_nm, bindR_s, step_nx, step_rt, initE, List.replicate, isBox, gLen, gInt, gMulI, gMod, gFdiv, gAdd, gSub, gCmpI, gIx, gIsN, isNon, sq_l, sq_t, sq_k, cleanD, noBox, noBoxs, hl, Pv.big, placesFrom, bindT, bindTs]
    simpa using ih
theorem places_of (r s : D) (b1 b2 : Bool) (ds : List D) (t : List Int) (hr : seqD r = some (b1, ds)) (hs : seqD s = some (b2, t.map D.int)) (h0 : ds.length = t.length) (hl : t.length ≤ 1000) : m_places_of [r, s] = some (0, .tup ((placesFrom 0 t).map D.int)) := by
  rw [show m_places_of [r, s] = finR (b_places_of (initE 6 [r, s])) from r_m rfl]
  obtain ⟨p', x', x2', h⟩ := po_loop (0, r) (0, s) t ds [] 0 none none h0 (by simpa using hl)
  unfold b_places_of
  simp only [List.nil_append] at h
  have hc := clean_ints (placesFrom 0 t)
  simp [i_zp, zip_s, zipQ_s, i_en, en_s, enQ_s, r_put, put_s, r_kg2, kg2_s, i_lc, lcI_s, r_seq, r_seq_nx, r_seq_rt, r_seq_bk, r_seq_ct, r_nil, r_if, r_if_t, r_if_f, r_asg, r_asg_v, r_arg, r_c, r_var, r_var_0, r_var_s, r_bv, r_bv_s, v_c, v_bv, v_var, v_var_0, g1_s, g2_s, r_op1, r_op2, v_op1, v_op2, va_nil, va_cons, consR_s, gN_s, on1_s, r_call, v_call, fn_s, r_fn, v_fn, ow_nil, ow_cons, ownC_s, disp_s, r_tup, r_ktup, r_lst, v_tup, v_ktup, v_lst, t_vl, bl_s, t_nt, not_s, t_an, t_or, and_t, and_f, or_t, or_f, t_tr, tru_s, r_ife, ife_t, ife_f, r_app, app_s, r_aug, aug_s, r_ret, ret_v, ret_r, retB_s, r_par, a_nl, a_cn, cR_s, par_2, r_for, for_s, i_sq, seq_s, i_rg, rng_s, r_frz, frz_s, fin_rt, fin_nx, l_nil, bind_nm, bindR_s, step_nx, step_rt, initE, List.replicate, isBox, gLen, gInt, gMulI, gMod, gFdiv, gAdd, gSub, gCmpI, gIx, gIsN, isNon, sq_l, sq_t, sq_k, cleanD, noBox, noBoxs, hr, hs, h, gTupOf, hc]
/-! marks -/
def markFrom (i : Nat) : List Dd → Nat → Option Nat
  | [], _ => none
  | .mk c' :: ds, c => if c' = c then some i else markFrom (i + 1) ds c
  | .jp _ _ :: ds, c => markFrom (i + 1) ds c
  | .dd _ :: ds, c => markFrom (i + 1) ds c
theorem valD_putD (kvs : List (List L2.Key × D)) (k k' : List L2.Key) (d : D) (h : valD kvs k = none) : valD (putD kvs k d) k' = if k = k' then some d else valD kvs k' := by
  unfold putD
  rw [h]
  simp only [Option.isSome_none, Bool.false_eq_true, if_false]
  induction kvs with
  | nil => simp [valD]
  | cons p r ih =>
    unfold valD at h
    split at h
    · cases h
    · rename_i hp
      rw [List.cons_append]
      unfold valD
      by_cases e : p.1 = k'
      · rw [if_pos e, if_pos e, if_neg (fun z => hp (e.trans z.symm))]
      · rw [if_neg e, if_neg e]
        exact ih h
theorem putD_len (kvs : List (List L2.Key × D)) (k : List L2.Key) (d : D) : (putD kvs k d).length ≤ kvs.length + 1 := by
  unfold putD
  split <;> simp
theorem putD_all (q : D → Bool) (kvs : List (List L2.Key × D)) (k : List L2.Key) (d : D) (h : kvs.all (fun p => q p.2) = true) (hd : q d = true) : (putD kvs k d).all (fun p => q p.2) = true := by
  unfold putD
  split
  · rw [List.all_map]
    refine List.all_eq_true.mpr fun p hp => ?_
    simp only [Function.comp]
    split
    · exact hd
    · exact List.all_eq_true.mp h p hp
  · rw [List.all_append, h]
    simp [hd]
def bodyM : Fs := sIf (bAnd (bVal (pOp2 gEq (pOp2 gIx (pBv 3) (pC (.int 0))) (pC (.str "mark")))) (bVal (pOp2 (gDIn true) (pOp2 gIx (pBv 3) (pC (.int 1))) (pBv 1)))) (sPut 1 (pOp2 gIx (pBv 3) (pC (.int 1))) (pVar 2)) bNil
theorem mk_loop (z : W) : ∀ (ds : List Dd) (i : Nat) (kvs : List (List L2.Key × D)) (x y : Option W), kvs.length + ds.length ≤ 1000 → kvs.all (fun p => cleanD 0 p.2) = true →
    ∃ kvs' x' y', (∀ c, valD kvs' [.inr (nm c)] = match valD kvs [.inr (nm c)] with | some d => some d | none => (markFrom i ds c).map fun k => .int (k : Nat)) ∧ kvs'.all (fun p => cleanD 0 p.2) = true ∧
      loopF (.tp [.nm 2, .nm 3]) bodyM (enumF i (ds.map Dd.d)) [some z, some (1, .dct false kvs), x, y] = some (.nx, [some z, some (1, .dct false kvs'), x', y'])
  | [], i, kvs, x, y, _, hq => ⟨kvs, x, y, (fun c => by cases valD kvs [.inr (nm c)] <;> rfl), hq, by simp [l_nil, enumF]⟩
  | .mk c0 :: ds, i, kvs, x, y, h, hq => by
    have hb : kvs.length < 1000000 := by simp at h; omega
    rw [List.map_cons, enumF, l_cons]
    cases hv : valD kvs [.inr (nm c0)] with
    | some d =>
      obtain ⟨kvs', x', y', q1, q2, q3⟩ := mk_loop z ds (i + 1) kvs (some (0, .int (i : Nat))) (some (0, Dd.d (.mk c0))) (by simp at h; omega) hq
      refine ⟨kvs', x', y', fun c => ?_, q2, ?_⟩
      · rw [q1 c]
        by_cases e : c0 = c
        · subst e; rw [hv]
        · cases valD kvs [.inr (nm c)] with
          | some d => rfl
          | none => simp [markFrom, e]
      · unfold bodyM
        simp [i_zp, zip_s, zipQ_s, i_en, en_s, enQ_s, r_put, put_s, r_kg2, kg2_s, i_lc, lcI_s, r_seq, r_seq_nx, r_seq_rt, r_seq_bk, r_seq_ct, r_nil, r_if, r_if_t, r_if_f, r_asg, r_asg_v, r_arg, r_c, r_var, r_var_0, r_var_s, r_bv, r_bv_s, v_c, v_bv, v_var, v_var_0, g1_s, g2_s, r_op1, r_op2, v_op1, v_op2, va_nil, va_cons, consR_s, gN_s, on1_s, r_call, v_call, fn_s, r_fn, v_fn, ow_nil, ow_cons, ownC_s, disp_s, r_tup, r_ktup, r_lst, v_tup, v_ktup, v_lst, t_vl, bl_s, t_nt, not_s, t_an, t_or, and_t, and_f, or_t, or_f, t_tr, tru_s, r_ife, ife_t, ife_f, r_app, app_s, r_aug, aug_s, r_ret, ret_v, ret_r, retB_s, r_par, a_nl, a_cn, cR_s, par_2, r_for, for_s, i_sq, seq_s, i_rg, rng_s, r_frz, frz_s, fin_rt, fin_nx, l_nil, bind_nm, bindR_s, step_nx, step_rt, initE, List.replicate, isBox, gLen, gInt, gMulI, gMod, gFdiv, gAdd, gSub, gCmpI, gIx, gIsN, isNon, sq_l, sq_t, sq_k, cleanD, noBox, noBoxs, bindT, bindTs, Dd.d, at0, at1, gEq_str, gDIn, keyD, keyK, hv]
        simpa [bodyM, Dd.d] using q3
    | none =>
      obtain ⟨kvs', x', y', q1, q2, q3⟩ := mk_loop z ds (i + 1) (putD kvs [.inr (nm c0)] (.int (i : Nat))) (some (0, .int (i : Nat))) (some (0, Dd.d (.mk c0))) (by have := putD_len kvs [.inr (nm c0)] (.int (i : Nat)); simp at h; omega) (putD_all (cleanD 0) _ _ _ hq rfl)
      refine ⟨kvs', x', y', fun c => ?_, q2, ?_⟩
      · rw [q1 c, valD_putD _ _ _ _ hv]
        by_cases e : c0 = c
        · subst e; rw [hv]; simp [markFrom]
        · have : ¬ ([Sum.inr (nm c0)] : List L2.Key) = [.inr (nm c)] := by simp [nm_inj, e]
          rw [if_neg this]
          simp [markFrom, e]
      · unfold bodyM
        have hk : keyD false (.str (nm c0)) = some [.inr (nm c0)] := rfl
        simp [i_zp, zip_s, zipQ_s, i_en, en_s, enQ_s, r_put, put_s, r_kg2, kg2_s, i_lc, lcI_s, r_seq, r_seq_nx, r_seq_rt, r_seq_bk, r_seq_ct, r_nil, r_if, r_if_t, r_if_f, r_asg, r_asg_v, r_arg, r_c, r_var, r_var_0, r_var_s, r_bv, r_bv_s, v_c, v_bv, v_var, v_var_0, g1_s, g2_s, r_op1, r_op2, v_op1, v_op2, va_nil, va_cons, consR_s, gN_s, on1_s, r_call, v_call, fn_s, r_fn, v_fn, ow_nil, ow_cons, ownC_s, disp_s, r_tup, r_ktup, r_lst, v_tup, v_ktup, v_lst, t_vl, bl_s, t_nt, not_s, t_an, t_or, and_t, and_f, or_t, or_f, t_tr, tru_s, r_ife, ife_t, ife_f, r_app, app_s, r_aug, aug_s, r_ret, ret_v, ret_r, retB_s, r_par, a_nl, a_cn, cR_s, par_2, r_for, for_s, i_sq, seq_s, i_rg, rng_s, r_frz, frz_s, fin_rt, fin_nx, l_nil, bind_nm, bindR_s, step_nx, step_rt, initE, List.replicate, isBox, gLen, gInt, gMulI, gMod, gFdiv, gAdd, gSub, gCmpI, gIx, gIsN, isNon, sq_l, sq_t, sq_k, cleanD, noBox, noBoxs, bindT, bindTs, Dd.d, at0, at1, gEq_str, gDIn, hk, put_s hk, hv, Pv.big, hb]
        simpa [bodyM, Dd.d] using q3
  | .jp b c0 :: ds, i, kvs, x, y, h, hq => by
    obtain ⟨kvs', x', y', q1, q2, q3⟩ := mk_loop z ds (i + 1) kvs (some (0, .int (i : Nat))) (some (0, Dd.d (.jp b c0))) (by simp at h; omega) hq
    refine ⟨kvs', x', y', fun c => by rw [q1 c]; rfl, q2, ?_⟩
    rw [List.map_cons, enumF, l_cons]
    unfold bodyM
    simp [i_zp, zip_s, zipQ_s, i_en, en_s, enQ_s, r_put, put_s, r_kg2, kg2_s, i_lc, lcI_s, r_seq, r_seq_nx, r_seq_rt, r_seq_bk, r_seq_ct, r_nil, r_if, r_if_t, r_if_f, r_asg, r_asg_v, r_arg, r_c, r_var, r_var_0, r_var_s, r_bv, r_bv_s, v_c, v_bv, v_var, v_var_0, g1_s, g2_s, r_op1, r_op2, v_op1, v_op2, va_nil, va_cons, consR_s, gN_s, on1_s, r_call, v_call, fn_s, r_fn, v_fn, ow_nil, ow_cons, ownC_s, disp_s, r_tup, r_ktup, r_lst, v_tup, v_ktup, v_lst, t_vl, bl_s, t_nt, not_s, t_an, t_or, and_t, and_f, or_t, or_f, t_tr, tru_s, r_ife, ife_t, ife_f, r_app, app_s, r_aug, aug_s, r_ret, ret_v, ret_r, retB_s, r_par, a_nl, a_cn, cR_s, par_2, r_for, for_s, i_sq, seq_s, i_rg, rng_s, r_frz, frz_s, fin_rt, fin_nx, l_nil, bind_nm, bindR_s, step_nx, step_rt, initE, List.replicate, isBox, gLen, gInt, gMulI, gMod, gFdiv, gAdd, gSub, gCmpI, gIx, gIsN, isNon, sq_l, sq_t, sq_k, cleanD, noBox, noBoxs, bindT, bindTs, Dd.d, at0, at1, gEq_str, kd_mark]
    simpa [bodyM, Dd.d] using q3
  | .dd n :: ds, i, kvs, x, y, h, hq => by
    obtain ⟨kvs', x', y', q1, q2, q3⟩ := mk_loop z ds (i + 1) kvs (some (0, .int (i : Nat))) (some (0, Dd.d (.dd n))) (by simp at h; omega) hq
    refine ⟨kvs', x', y', fun c => by rw [q1 c]; rfl, q2, ?_⟩
    rw [List.map_cons, enumF, l_cons]
    unfold bodyM
    simp [i_zp, zip_s, zipQ_s, i_en, en_s, enQ_s, r_put, put_s, r_kg2, kg2_s, i_lc, lcI_s, r_seq, r_seq_nx, r_seq_rt, r_seq_bk, r_seq_ct, r_nil, r_if, r_if_t, r_if_f, r_asg, r_asg_v, r_arg, r_c, r_var, r_var_0, r_var_s, r_bv, r_bv_s, v_c, v_bv, v_var, v_var_0, g1_s, g2_s, r_op1, r_op2, v_op1, v_op2, va_nil, va_cons, consR_s, gN_s, on1_s, r_call, v_call, fn_s, r_fn, v_fn, ow_nil, ow_cons, ownC_s, disp_s, r_tup, r_ktup, r_lst, v_tup, v_ktup, v_lst, t_vl, bl_s, t_nt, not_s, t_an, t_or, and_t, and_f, or_t, or_f, t_tr, tru_s, r_ife, ife_t, ife_f, r_app, app_s, r_aug, aug_s, r_ret, ret_v, ret_r, retB_s, r_par, a_nl, a_cn, cR_s, par_2, r_for, for_s, i_sq, seq_s, i_rg, rng_s, r_frz, frz_s, fin_rt, fin_nx, l_nil, bind_nm, bindR_s, step_nx, step_rt, initE, List.replicate, isBox, gLen, gInt, gMulI, gMod, gFdiv, gAdd, gSub, gCmpI, gIx, gIsN, isNon, sq_l, sq_t, sq_k, cleanD, noBox, noBoxs, bindT, bindTs, Dd.d, at0, at1, gEq_str, do_mark]
    simpa [bodyM, Dd.d] using q3
theorem marks_of (r : D) (b1 : Bool) (ds : List Dd) (hr : seqD r = some (b1, ds.map Dd.d)) (hl : ds.length ≤ 1000) : ∃ kvs, (∀ c, valD kvs [.inr (nm c)] = (markFrom 0 ds c).map fun k => .int (k : Nat)) ∧ m_marks_of [r] = some (1, .dct false kvs) := by
  rw [show m_marks_of [r] = finR (b_marks_of (initE 4 [r])) from r_m rfl]
  obtain ⟨kvs, x', y', q1, q2, q3⟩ := mk_loop (0, r) ds 0 [] none none (by simpa using hl) rfl
  refine ⟨kvs, fun c => by rw [q1 c]; rfl, ?_⟩
  unfold b_marks_of
  unfold bodyM at q3
  have e : ∀ ρ, pDNew 0 false ρ = some (.v 1 (.dct false [])) := fun _ => rfl
  have hc : (kvs.all fun p => noBox p.2) = true := by
    rw [← q2]
    congr 1
  simp only [i_zp, zip_s, zipQ_s, i_en, en_s, enQ_s, r_put, put_s, r_kg2, kg2_s, i_lc, lcI_s, r_seq, r_seq_nx, r_seq_rt, r_seq_bk, r_seq_ct, r_nil, r_if, r_if_t, r_if_f, r_asg, r_asg_v, r_arg, r_c, r_var, r_var_0, r_var_s, r_bv, r_bv_s, v_c, v_bv, v_var, v_var_0, g1_s, g2_s, r_op1, r_op2, v_op1, v_op2, va_nil, va_cons, consR_s, gN_s, on1_s, r_call, v_call, fn_s, r_fn, v_fn, ow_nil, ow_cons, ownC_s, disp_s, r_tup, r_ktup, r_lst, v_tup, v_ktup, v_lst, t_vl, bl_s, t_nt, not_s, t_an, t_or, and_t, and_f, or_t, or_f, t_tr, tru_s, r_ife, ife_t, ife_f, r_app, app_s, r_aug, aug_s, r_ret, ret_v, ret_r, retB_s, r_par, a_nl, a_cn, cR_s, par_2, r_for, for_s, i_sq, seq_s, i_rg, rng_s, r_frz, frz_s, fin_rt, fin_nx, l_nil, bind_nm, bindR_s, step_nx, step_rt, initE, List.replicate, isBox, gLen, gInt, gMulI, gMod, gFdiv, gAdd, gSub, gCmpI, gIx, gIsN, isNon, sq_l, sq_t, sq_k, cleanD, noBox, noBoxs, hr, q3, e]
  simp [i_zp, zip_s, zipQ_s, i_en, en_s, enQ_s, r_put, put_s, r_kg2, kg2_s, i_lc, lcI_s, r_seq, r_seq_nx, r_seq_rt, r_seq_bk, r_seq_ct, r_nil, r_if, r_if_t, r_if_f, r_asg, r_asg_v, r_arg, r_c, r_var, r_var_0, r_var_s, r_bv, r_bv_s, v_c, v_bv, v_var, v_var_0, g1_s, g2_s, r_op1, r_op2, v_op1, v_op2, va_nil, va_cons, consR_s, gN_s, on1_s, r_call, v_call, fn_s, r_fn, v_fn, ow_nil, ow_cons, ownC_s, disp_s, r_tup, r_ktup, r_lst, v_tup, v_ktup, v_lst, t_vl, bl_s, t_nt, not_s, t_an, t_or, and_t, and_f, or_t, or_f, t_tr, tru_s, r_ife, ife_t, ife_f, r_app, app_s, r_aug, aug_s, r_ret, ret_v, ret_r, retB_s, r_par, a_nl, a_cn, cR_s, par_2, r_for, for_s, i_sq, seq_s, i_rg, rng_s, r_frz, frz_s, fin_rt, fin_nx, l_nil, bind_nm, bindR_s, step_nx, step_rt, initE, List.replicate, isBox, gLen, gInt, gMulI, gMod, gFdiv, gAdd, gSub, gCmpI, gIx, gIsN, isNon, sq_l, sq_t, sq_k, cleanD, noBox, noBoxs, hr, q3, e, hc]
end K40
set_option linter.all false
set_option maxRecDepth 100000
/-! the plain law: growing from short gives the least fitting choice -/
namespace K40
open PySem Pv
def sh (b : Bool) : Int := if b then 3 else 2
def lg (b : Bool) : Int := if b then 6 else 5
def absI (x : Int) : Int := if x < 0 then -x else x
def PP (t : List Int) (i : Nat) : Int := (t.take i).sum
theorem places_get : ∀ (p : Int) (t : List Int) (i : Nat), i < t.length → (placesFrom p t)[i]? = some (p + PP t i)
  | p, [], i, h => by simp at h
  | p, n :: t, 0, _ => by simp [placesFrom, PP]
  | p, n :: t, i + 1, h => by
    rw [placesFrom, List.getElem?_cons_succ, places_get (p + n) t i (by simpa using h)]
    unfold PP
    rw [List.take_succ_cons, List.sum_cons]
    congr 1
    omega
theorem PP_succ (t : List Int) (i : Nat) (s : Int) (h : t[i]? = some s) : PP t (i + 1) = PP t i + s := by
  unfold PP
  rw [List.take_add_one, h]
  simp
theorem mark_some (ds : List Dd) : ∀ (l : List Dd) (i : Nat) (c : Nat), (∀ j, l[j]? = ds[i + j]?) → Dd.mk c ∈ l → ∃ m, markFrom i l c = some m ∧ m < i + l.length ∧ ds[m]? = some (.mk c)
  | [], i, c, _, h => by cases h
  | d :: l, i, c, hj, h => by
    have hj' : ∀ j, l[j]? = ds[i + 1 + j]? := fun j => by
      have := hj (j + 1)
      rw [List.getElem?_cons_succ] at this
      rw [this]
      congr 1
      omega
    have h0 : ds[i]? = some d := by
      have := hj 0
      simpa using this.symm
    have rest : Dd.mk c ∈ l → ∃ m, markFrom (i + 1) l c = some m ∧ m < i + (d :: l).length ∧ ds[m]? = some (.mk c) := fun h => by
      obtain ⟨m, q1, q2, q3⟩ := mark_some ds l (i + 1) c hj' h
      exact ⟨m, q1, by simp; omega, q3⟩
    cases d with
    | mk c' =>
      unfold markFrom
      by_cases e : c' = c
      · subst e
        rw [if_pos rfl]
        exact ⟨i, rfl, by simp, h0⟩
      · rw [if_neg e]
        exact rest (by
          rcases List.mem_cons.mp h with q | q
          · cases q; exact absurd rfl e
          · exact q)
    | jp b c' =>
      exact rest (by
        rcases List.mem_cons.mp h with q | q
        · cases q
        · exact q)
    | dd n =>
      exact rest (by
        rcases List.mem_cons.mp h with q | q
        · cases q
        · exact q)
theorem mark_of {ds : List Dd} (ok : Ok2 ds) {k : Nat} {b : Bool} {c : Nat} (h : ds[k]? = some (.jp b c)) : ∃ m, markFrom 0 ds c = some m ∧ m < ds.length ∧ ds[m]? = some (.mk c) := by
  obtain ⟨m, q1, q2, q3⟩ := mark_some ds ds 0 c (fun j => by rw [Nat.zero_add]) (ok.tg b c (List.mem_of_getElem? h))
  exact ⟨m, q1, by simpa using q2, q3⟩
def opts : Dd → List Int
  | .jp b _ => [sh b, lg b]
  | .dd n => [n]
  | .mk _ => [0]
structure Ch (ds : List Dd) (t : List Int) : Prop where
  ln : t.length = ds.length
  op : ∀ (k : Nat) (d : Dd) (s : Int), ds[k]? = some d → t[k]? = some s → s ∈ opts d
def farAt (ds : List Dd) (t : List Int) (k : Nat) : Bool :=
  match ds[k]? with
  | some (.jp b c) => (match t[k]?, markFrom 0 ds c with
    | some s, some m => decide (s = sh b) && decide (10 < absI (PP t m - PP t k - s))
    | _, _ => false)
  | _ => false
def Le (t t' : List Int) : Prop := ∀ (k : Nat) (s s' : Int), t[k]? = some s → t'[k]? = some s' → s ≤ s'
theorem opt_nonneg {ds : List Dd} {t : List Int} (ok : Ok2 ds) (h : Ch ds t) {k : Nat} {s : Int} (hs : t[k]? = some s) : 0 ≤ s ∧ s ≤ 16 := by
  have hk : k < ds.length := by rw [← h.ln]; exact (List.getElem?_eq_some_iff.mp hs).1
  have hd : ds[k]? = some ds[k] := List.getElem?_eq_getElem hk
  have := h.op k _ s hd hs
  cases e : ds[k] with
  | jp b c =>
    rw [e] at this
    simp [opts] at this
    cases b <;> simp [sh, lg] at this <;> omega
  | dd n =>
    rw [e] at this hd
    simp [opts] at this
    have := ok.sz n (List.mem_of_getElem? hd)
    omega
  | mk c =>
    rw [e] at this
    simp [opts] at this
    omega
theorem span_mono {t t' : List Int} (hl : t.length = t'.length) (h0 : ∀ (k : Nat) (s : Int), t[k]? = some s → 0 ≤ s) (hle : Le t t') (i : Nat) : ∀ n, i + n ≤ t.length → 0 ≤ PP t (i + n) - PP t i ∧ PP t (i + n) - PP t i ≤ PP t' (i + n) - PP t' i
  | 0, _ => by simp
  | n + 1, h => by
    obtain ⟨q1, q2⟩ := span_mono hl h0 hle i n (by omega)
    have e1 : t[i + n]? = some t[i + n] := List.getElem?_eq_getElem (by omega)
    have e2 : t'[i + n]? = some t'[i + n] := List.getElem?_eq_getElem (by omega)
    have := hle (i + n) _ _ e1 e2
    have := h0 _ _ e1
    rw [show i + (n + 1) = i + n + 1 from rfl, PP_succ t _ _ e1, PP_succ t' _ _ e2]
    omega
/-- what is far stays far when sizes grow -/
theorem far_mono {ds : List Dd} {t t' : List Int} (ok : Ok2 ds) (ht : Ch ds t) (ht' : Ch ds t') (hle : Le t t') {k : Nat} (hf : farAt ds t k = true) (hf' : farAt ds t' k = false) : ∃ b c, ds[k]? = some (.jp b c) ∧ t[k]? = some (sh b) ∧ t'[k]? = some (lg b) := by
  unfold farAt at hf hf'
  have hln := ht.ln
  have hln' := ht'.ln
  cases hd : ds[k]? with
  | none => rw [hd] at hf; cases hf
  | some d =>
    rw [hd] at hf hf'
    cases d with
    | dd n => cases hf
    | mk c => cases hf
    | jp b c =>
      have hk : k < ds.length := (List.getElem?_eq_some_iff.mp hd).1
      obtain ⟨m, hm, hml, hmk⟩ := mark_of ok hd
      have e1 : t[k]? = some t[k] := List.getElem?_eq_getElem (by omega)
      have e2 : t'[k]? = some t'[k] := List.getElem?_eq_getElem (by omega)
      dsimp only at hf hf'
      rw [e1, hm] at hf
      rw [e2, hm] at hf'
      simp only [Bool.and_eq_true, decide_eq_true_eq] at hf
      refine ⟨b, c, rfl, by rw [e1, hf.1], ?_⟩
      have ho := ht'.op k _ _ hd e2
      simp only [opts, List.mem_cons, List.not_mem_nil, or_false] at ho
      rcases ho with ho | ho
      · exfalso
        simp only [ho, decide_true, Bool.true_and, decide_eq_false_iff_not] at hf'
        apply hf'
        have hne : m ≠ k := fun z => by subst z; rw [hd] at hmk; cases hmk
        have h0 : ∀ (k : Nat) (s : Int), t[k]? = some s → 0 ≤ s := fun k s h => (opt_nonneg ok ht h).1
        have hg := hf.2
        have p1 := PP_succ t k _ e1
        have p2 := PP_succ t' k _ e2
        rw [ho] at p2
        rw [hf.1] at p1 hg
        by_cases hlt : k < m
        · obtain ⟨q1, q2⟩ := span_mono (by omega) h0 hle (k + 1) (m - (k + 1)) (by omega)
          rw [show k + 1 + (m - (k + 1)) = m by omega] at q1 q2
          unfold absI at hg ⊢
          rw [if_neg (by omega)] at hg
          rw [if_neg (by omega)]
          omega
        · obtain ⟨q1, q2⟩ := span_mono (by omega) h0 hle m (k + 1 - m) (by omega)
          rw [show m + (k + 1 - m) = k + 1 by omega] at q1 q2
          unfold absI at hg ⊢
          split at hg
          · split <;> omega
          · omega
      · rw [e2, ho]
def lgAt (ds : List Dd) (k : Nat) : Int := match ds[k]? with
  | some (.jp b _) => lg b
  | _ => 0
def farL (ds : List Dd) (t : List Int) : List Nat := (List.range ds.length).filter (farAt ds t)
def step (ds : List Dd) (fs : List Nat) (t : List Int) : List Int := fs.foldl (fun t k => t.set k (lgAt ds k)) t
theorem step_len (ds : List Dd) : ∀ (fs : List Nat) (t : List Int), (step ds fs t).length = t.length
  | [], t => rfl
  | k :: fs, t => by
    show (step ds fs (t.set k (lgAt ds k))).length = _
    rw [step_len ds fs, List.length_set]
theorem step_get (ds : List Dd) : ∀ (fs : List Nat) (t : List Int) (k : Nat), k < t.length → (step ds fs t)[k]? = if k ∈ fs then some (lgAt ds k) else t[k]?
  | [], t, k, _ => by simp [step]
  | j :: fs, t, k, h => by
    show (step ds fs (t.set j (lgAt ds j)))[k]? = _
    rw [step_get ds fs _ k (by rw [List.length_set]; exact h)]
    by_cases hk : k ∈ fs
    · rw [if_pos hk, if_pos (List.mem_cons_of_mem _ hk)]
    · rw [if_neg hk]
      by_cases e : j = k
      · subst e
        rw [List.getElem?_set_self h, if_pos List.mem_cons_self]
      · rw [List.getElem?_set_ne e, if_neg (fun z => by
          rcases List.mem_cons.mp z with z | z
          · exact e z.symm
          · exact hk z)]
/-- a choice below all that fit -/
structure Inv (ds : List Dd) (t : List Int) : Prop where
  ch : Ch ds t
  lo : ∀ t', Ch ds t' → (∀ k, farAt ds t' k = false) → Le t t'
theorem mem_far {ds : List Dd} {t : List Int} {k : Nat} : k ∈ farL ds t ↔ k < ds.length ∧ farAt ds t k = true := by
  unfold farL
  rw [List.mem_filter, List.mem_range]
theorem far_jp {ds : List Dd} {t : List Int} {k : Nat} (h : farAt ds t k = true) : ∃ b c, ds[k]? = some (.jp b c) ∧ t[k]? = some (sh b) := by
  unfold farAt at h
  split at h
  · rename_i b c hd
    split at h
    · rename_i s m hs hm
      simp only [Bool.and_eq_true, decide_eq_true_eq] at h
      exact ⟨b, c, hd, by rw [hs, h.1]⟩
    · cases h
  · cases h
theorem inv_step {ds : List Dd} {t : List Int} (ok : Ok2 ds) (I : Inv ds t) : Inv ds (step ds (farL ds t) t) := by
  have hl := step_len ds (farL ds t) t
  have hln := I.ch.ln
  refine ⟨⟨by omega, fun k d s hd hs => ?_⟩, fun t' ht' hf' k s s' hs hs' => ?_⟩
  · have hk : k < t.length := by rw [← hl]; exact (List.getElem?_eq_some_iff.mp hs).1
    rw [step_get ds _ t k hk] at hs
    split at hs
    · rename_i hm
      obtain ⟨b, c, h1, h2⟩ := far_jp (mem_far.mp hm).2
      rw [h1] at hd
      cases hd
      cases hs
      simp [opts, lgAt, h1]
    · exact I.ch.op k d s hd hs
  · have hk : k < t.length := by rw [← hl]; exact (List.getElem?_eq_some_iff.mp hs).1
    rw [step_get ds _ t k hk] at hs
    split at hs
    · rename_i hm
      obtain ⟨b, c, h1, h2, h3⟩ := far_mono ok I.ch ht' (I.lo t' ht' hf') (mem_far.mp hm).2 (hf' k)
      cases hs
      rw [h3] at hs'
      cases hs'
      simp [lgAt, h1]
    · exact I.lo t' ht' hf' k s s' hs hs'
theorem sum_lt : ∀ {t t' : List Int}, t.length = t'.length → Le t t' → (∃ (k : Nat) (s s' : Int), t[k]? = some s ∧ t'[k]? = some s' ∧ s < s') → t.sum < t'.sum
  | [], _, _, _, ⟨k, s, s', h, _⟩ => by simp at h
  | a :: t, [], h, _, _ => by simp at h
  | a :: t, b :: t', hl, hle, ⟨k, s, s', h1, h2, h3⟩ => by
    have hab : a ≤ b := hle 0 a b rfl rfl
    have hle' : Le t t' := fun k s s' h h' => hle (k + 1) s s' (by simpa using h) (by simpa using h')
    have hl' : t.length = t'.length := by simpa using hl
    have weak : ∀ {t t' : List Int}, t.length = t'.length → Le t t' → t.sum ≤ t'.sum := by
      intro t
      induction t with
      | nil => intro t' h _; rw [List.eq_nil_of_length_eq_zero h.symm]; exact Int.le_refl _
      | cons a t ih =>
        intro t' h hle
        cases t' with
        | nil => simp at h
        | cons b t' =>
          have h1 := ih (t' := t') (by simpa using h) fun k s s' h h' => hle (k + 1) s s' (by simpa using h) (by simpa using h')
          have h2 : a ≤ b := hle 0 a b rfl rfl
          simp only [List.sum_cons]
          omega
    cases k with
    | zero =>
      simp at h1 h2
      subst h1 h2
      have := weak hl' hle'
      simp only [List.sum_cons]
      omega
    | succ k =>
      have := sum_lt hl' hle' ⟨k, s, s', by simpa using h1, by simpa using h2, h3⟩
      simp only [List.sum_cons]
      omega
theorem step_le {ds : List Dd} {t : List Int} (h : Ch ds t) : Le t (step ds (farL ds t) t) := fun k s s' hs hs' => by
  have hk : k < t.length := (List.getElem?_eq_some_iff.mp hs).1
  rw [step_get ds _ t k hk] at hs'
  split at hs'
  · rename_i hm
    obtain ⟨b, c, h1, h2⟩ := far_jp (mem_far.mp hm).2
    cases hs'
    rw [h2] at hs
    cases hs
    simp [lgAt, h1]
    cases b <;> simp [sh, lg]
  · rw [hs] at hs'
    cases hs'
    exact Int.le_refl _
theorem step_sum {ds : List Dd} {t : List Int} (h : Ch ds t) (hne : farL ds t ≠ []) : t.sum < (step ds (farL ds t) t).sum := by
  refine sum_lt (step_len ds _ t).symm (step_le h) ?_
  obtain ⟨k, hk⟩ := List.exists_mem_of_ne_nil _ hne
  obtain ⟨hk1, hk2⟩ := mem_far.mp hk
  obtain ⟨b, c, h1, h2⟩ := far_jp hk2
  refine ⟨k, sh b, lg b, h2, ?_, by cases b <;> simp [sh, lg]⟩
  rw [step_get ds _ t k (by rw [h.ln]; exact hk1), if_pos hk]
  simp [lgAt, h1]
theorem sum_top : ∀ {t : List Int}, (∀ (k : Nat) (s : Int), t[k]? = some s → s ≤ 16) → t.sum ≤ 16 * t.length
  | [], _ => by simp
  | a :: t, h => by
    have := sum_top (t := t) fun k s hs => h (k + 1) s (by simpa using hs)
    have := h 0 a rfl
    simp only [List.sum_cons, List.length_cons]
    omega
def s0 : Dd → Int
  | .jp b _ => sh b
  | .dd n => n
  | .mk _ => 0
theorem inv0 {ds : List Dd} (ok : Ok2 ds) : Inv ds (ds.map s0) := by
  refine ⟨⟨by simp, fun k d s hd hs => ?_⟩, fun t' ht' _ k s s' hs hs' => ?_⟩
  · rw [List.getElem?_map, hd] at hs
    cases hs
    cases d <;> simp [opts, s0]
  · rw [List.getElem?_map] at hs
    cases hd : ds[k]? with
    | none => rw [hd] at hs; cases hs
    | some d =>
      rw [hd] at hs
      cases hs
      have := ht'.op k d s' hd hs'
      cases d with
      | jp b c =>
        simp [opts] at this
        cases b <;> simp [s0, sh, lg] at this ⊢ <;> omega
      | dd n => simp [opts] at this; simp [s0]; omega
      | mk c => simp [opts] at this; simp [s0]; omega
end K40
set_option linter.all false
set_option maxRecDepth 100000
namespace K40
open PySem Pv
theorem ix_l (k j : Nat) (ds : List D) (i : Int) : gIx (k, .lst ds) (j, .int i) = if k ≤ 1 then (L2.atI ds i).map fun d => (0, d) else none := rfl
theorem ix_t (k j : Nat) (ds : List D) (i : Int) : gIx (k, .tup ds) (j, .int i) = (L2.atI ds i).map fun d => (0, d) := rfl
theorem ix_k (k j : Nat) (ds : List D) (i : Int) : gIx (k, .ktp ds) (j, .int i) = (L2.atI ds i).map fun d => (0, d) := rfl
theorem ix_s (k j : Nat) (ds : List Int) (i : Int) : gIx (k, .scr ds) (j, .int i) = (L2.atI ds i).map fun n => (0, .int n) := rfl
theorem ix_z (k j : Nat) (z : Str) (i : Int) : gIx (k, .str z) (j, .int i) = if z.length ≤ big then (L2.atI z.cps.toList i).map fun c => (0, .str ⟨#[c]⟩) else none := rfl
theorem ixN_at {n j : Nat} (hj : j < n) : L2.ixN n (j : Int) = some j := by
  unfold L2.ixN
  rw [if_pos (by omega), if_pos (by omega)]
  simp
theorem gEq_int (k l : Nat) (a b : Int) : gEq (k, .int a) (l, .int b) = some (0, .bl (decide (a = b))) := by
  simp [gEq, eqOk, isBox, gEqD, gEqS]
theorem ks_jp (b : Bool) : kget k_SHORT (kd b) = some (.int (sh b)) := by cases b <;> rfl
theorem ks_do : kget k_SHORT "do" = none := by decide +kernel
theorem ks_mark : kget k_SHORT "mark" = none := by decide +kernel
theorem kl_jp (b : Bool) : kget k_LONG (kd b) = some (.int (lg b)) := by cases b <;> rfl
def bodyF : Fs := sIf (bAnd (bVal (pOp1 (gKIn false k_SHORT) (pOp2 gIx (pBv 6) (pC (.int 0))))) (bVal (pOp2 gEq (pOp2 gIx (pBv 1) (pBv 5)) (pOp1 (gKGet k_SHORT) (pOp2 gIx (pBv 6) (pC (.int 0))))))) (sIf (bVal (pOp2 (gCmpI fun i j => decide (j < i)) (pCall (on1 gAbs) (aCons (pOp2 gSub (pOp2 gSub (pOp2 gIx (pBv 3) (pOp2 gDGet (pBv 2) (pOp2 gIx (pBv 6) (pC (.int 1))))) (pOp2 gIx (pBv 3) (pBv 5))) (pOp2 gIx (pBv 1) (pBv 5))) aNil)) (pC (.int 10)))) (sApp 4 (pVar 5)) bNil) bNil
theorem gIx_seq {s : D} {bb : Bool} {t : List Int} (hs : seqD s = some (bb, t.map D.int)) (k : Nat) (i : Nat) (h : i < t.length) : gIx (0, s) (k, .int (i : Int)) = some (0, .int t[i]) := by
  have := atI_int t i h
  cases s <;> first | (cases hs; done) | skip
  all_goals (cases hs; simp [ix_l, ix_t, ix_k, this])
theorem atI_places (t : List Int) (i : Nat) (h : i < t.length) : L2.atI ((placesFrom 0 t).map D.int) (i : Int) = some (.int (PP t i)) := by
  have h2 := places_get 0 t i h
  refine L2.atI_nat ?_
  rw [List.getElem?_map, h2]
  simp
theorem far_loop {r s : D} {bb : Bool} {t : List Int} {kvs : List (List L2.Key × D)} (ds0 : List Dd) (ok : Ok2 ds0) (hs : seqD s = some (bb, t.map D.int)) (hl : t.length = ds0.length) (hk : ∀ c, valD kvs [.inr (nm c)] = (markFrom 0 ds0 c).map fun k => .int (k : Nat)) :
    ∀ (ds : List Dd) (i : Nat) (acc : List Nat) (x y : Option W), (∀ j, ds[j]? = ds0[i + j]?) → acc.length + ds.length ≤ 1000 →
    ∃ x' y', loopF (.tp [.nm 5, .nm 6]) bodyF (enumF i (ds.map Dd.d)) [some (0, r), some (0, s), some (0, .dct false kvs), some (0, .tup ((placesFrom 0 t).map D.int)), some (1, .lst (acc.map fun k => .int (k : Nat))), x, y] = some (.nx, [some (0, r), some (0, s), some (0, .dct false kvs), some (0, .tup ((placesFrom 0 t).map D.int)), some (1, .lst ((acc ++ (List.range' i ds.length).filter (farAt ds0 t)).map fun k => .int (k : Nat))), x', y'])
  | [], i, acc, x, y, _, _ => ⟨x, y, by simp [l_nil, enumF]⟩
  | d :: ds, i, acc, x, y, hj, ha => by
    have hj' : ∀ j, ds[j]? = ds0[i + 1 + j]? := fun j => by
      have := hj (j + 1)
      rw [List.getElem?_cons_succ] at this
      rw [this]
      congr 1
      omega
    have h0 : ds0[i]? = some d := by
      have := hj 0
      simpa using this.symm
    have hi : i < ds0.length := (List.getElem?_eq_some_iff.mp h0).1
    have hit : i < t.length := by omega
    have hgs := gIx_seq hs 0 i hit
    have hacc : acc.length < 1000000 := by simp at ha; omega
    rw [List.map_cons, enumF, l_cons, List.length_cons, List.range'_succ]
    have no : farAt ds0 t i = false → ∃ x' y', loopF (.tp [.nm 5, .nm 6]) bodyF (enumF (i + 1) (ds.map Dd.d)) [some (0, r), some (0, s), some (0, .dct false kvs), some (0, .tup ((placesFrom 0 t).map D.int)), some (1, .lst (acc.map fun k => .int (k : Nat))), some (0, .int (i : Nat)), some (0, d.d)] = some (.nx, [some (0, r), some (0, s), some (0, .dct false kvs), some (0, .tup ((placesFrom 0 t).map D.int)), some (1, .lst ((acc ++ (i :: List.range' (i + 1) ds.length).filter (farAt ds0 t)).map fun k => .int (k : Nat))), x', y']) := fun hf => by
      obtain ⟨x', y', q⟩ := far_loop ds0 ok hs hl hk ds (i + 1) acc (some (0, .int (i : Nat))) (some (0, d.d)) hj' (by simp at ha; omega)
      rw [List.filter_cons_of_neg (by rw [hf]; exact Bool.false_ne_true)]
      exact ⟨x', y', q⟩
    cases d with
    | dd n =>
      have hf : farAt ds0 t i = false := by unfold farAt; rw [h0]
      obtain ⟨x', y', q⟩ := no hf
      refine ⟨x', y', ?_⟩
      unfold bodyF
      simp [i_zp, zip_s, zipQ_s, i_en, en_s, enQ_s, r_put, put_s, r_kg2, kg2_s, i_lc, lcI_s, r_seq, r_seq_nx, r_seq_rt, r_seq_bk, r_seq_ct, r_nil, r_if, r_if_t, r_if_f, r_asg, r_asg_v, r_arg, r_c, r_var, r_var_0, r_var_s, r_bv, r_bv_s, v_c, v_bv, v_var, v_var_0, g1_s, g2_s, r_op1, r_op2, v_op1, v_op2, va_nil, va_cons, consR_s, gN_s, on1_s, r_call, v_call, fn_s, r_fn, v_fn, ow_nil, ow_cons, ownC_s, disp_s, r_tup, r_ktup, r_lst, v_tup, v_ktup, v_lst, t_vl, bl_s, t_nt, not_s, t_an, t_or, and_t, and_f, or_t, or_f, t_tr, tru_s, r_ife, ife_t, ife_f, r_app, app_s, r_aug, aug_s, r_ret, ret_v, ret_r, retB_s, r_par, a_nl, a_cn, cR_s, par_2, r_for, for_s, i_sq, seq_s, i_rg, rng_s, r_frz, frz_s, fin_rt, fin_nx, l_nil, bind_nm, bindR_s, step_nx, step_rt, initE, List.replicate, isBox, gLen, gInt, gMulI, gMod, gFdiv, gAdd, gSub, gCmpI, ix_l, ix_t, ix_k, ix_s, ix_z, gIsN, isNon, sq_l, sq_t, sq_k, cleanD, noBox, noBoxs, bindT, bindTs, Dd.d, at0, at1, gKIn, ks_do]
      simpa [bodyF, Dd.d] using q
    | mk c =>
      have hf : farAt ds0 t i = false := by unfold farAt; rw [h0]
      obtain ⟨x', y', q⟩ := no hf
      refine ⟨x', y', ?_⟩
      unfold bodyF
      simp [i_zp, zip_s, zipQ_s, i_en, en_s, enQ_s, r_put, put_s, r_kg2, kg2_s, i_lc, lcI_s, r_seq, r_seq_nx, r_seq_rt, r_seq_bk, r_seq_ct, r_nil, r_if, r_if_t, r_if_f, r_asg, r_asg_v, r_arg, r_c, r_var, r_var_0, r_var_s, r_bv, r_bv_s, v_c, v_bv, v_var, v_var_0, g1_s, g2_s, r_op1, r_op2, v_op1, v_op2, va_nil, va_cons, consR_s, gN_s, on1_s, r_call, v_call, fn_s, r_fn, v_fn, ow_nil, ow_cons, ownC_s, disp_s, r_tup, r_ktup, r_lst, v_tup, v_ktup, v_lst, t_vl, bl_s, t_nt, not_s, t_an, t_or, and_t, and_f, or_t, or_f, t_tr, tru_s, r_ife, ife_t, ife_f, r_app, app_s, r_aug, aug_s, r_ret, ret_v, ret_r, retB_s, r_par, a_nl, a_cn, cR_s, par_2, r_for, for_s, i_sq, seq_s, i_rg, rng_s, r_frz, frz_s, fin_rt, fin_nx, l_nil, bind_nm, bindR_s, step_nx, step_rt, initE, List.replicate, isBox, gLen, gInt, gMulI, gMod, gFdiv, gAdd, gSub, gCmpI, ix_l, ix_t, ix_k, ix_s, ix_z, gIsN, isNon, sq_l, sq_t, sq_k, cleanD, noBox, noBoxs, bindT, bindTs, Dd.d, at0, at1, gKIn, ks_mark]
      simpa [bodyF, Dd.d] using q
    | jp b c =>
      obtain ⟨m, hm, hml, _⟩ := mark_of ok h0
      have hkm := hk c
      rw [hm] at hkm
      have hpm := atI_places t m (by omega)
      have hpi := atI_places t i hit
      have hti : t[i]? = some t[i] := List.getElem?_eq_getElem hit
      have hfar : farAt ds0 t i = (decide (t[i] = sh b) && decide (10 < absI (PP t m - PP t i - t[i]))) := by
        unfold farAt
        rw [h0]
        dsimp only
        rw [hti, hm]
      by_cases c1 : t[i] = sh b
      · by_cases c2 : 10 < absI (PP t m - PP t i - t[i])
        · obtain ⟨x', y', q⟩ := far_loop ds0 ok hs hl hk ds (i + 1) (acc ++ [i]) (some (0, .int (i : Nat))) (some (0, Dd.d (.jp b c))) hj' (by simp at ha ⊢; omega)
          refine ⟨x', y', ?_⟩
          rw [List.filter_cons_of_pos (by rw [hfar]; simp [c1, c2]; rw [c1] at c2; exact c2)]
          unfold bodyF
          have c2' := c2
          unfold absI at c2'
          rw [c1] at c2'
          have key : keyD false (.str (nm c)) = some [.inr (nm c)] := rfl
          simp [i_zp, zip_s, zipQ_s, i_en, en_s, enQ_s, r_put, put_s, r_kg2, kg2_s, i_lc, lcI_s, r_seq, r_seq_nx, r_seq_rt, r_seq_bk, r_seq_ct, r_nil, r_if, r_if_t, r_if_f, r_asg, r_asg_v, r_arg, r_c, r_var, r_var_0, r_var_s, r_bv, r_bv_s, v_c, v_bv, v_var, v_var_0, g1_s, g2_s, r_op1, r_op2, v_op1, v_op2, va_nil, va_cons, consR_s, gN_s, on1_s, r_call, v_call, fn_s, r_fn, v_fn, ow_nil, ow_cons, ownC_s, disp_s, r_tup, r_ktup, r_lst, v_tup, v_ktup, v_lst, t_vl, bl_s, t_nt, not_s, t_an, t_or, and_t, and_f, or_t, or_f, t_tr, tru_s, r_ife, ife_t, ife_f, r_app, app_s, r_aug, aug_s, r_ret, ret_v, ret_r, retB_s, r_par, a_nl, a_cn, cR_s, par_2, r_for, for_s, i_sq, seq_s, i_rg, rng_s, r_frz, frz_s, fin_rt, fin_nx, l_nil, bind_nm, bindR_s, step_nx, step_rt, initE, List.replicate, isBox, gLen, gInt, gMulI, gMod, gFdiv, gAdd, gSub, gCmpI, ix_l, ix_t, ix_k, ix_s, ix_z, gIsN, isNon, sq_l, sq_t, sq_k, cleanD, noBox, noBoxs, bindT, bindTs, Dd.d, at0, at1, gKIn, ks_jp, gKGet, gEq_int, hgs, c1, gDGet, key, hkm, hpm, hpi, gAbs, c2', Pv.big, hacc]
          simpa [bodyF, Dd.d] using q
        · have hf : farAt ds0 t i = false := by rw [hfar, decide_eq_false c2, Bool.and_false]
          obtain ⟨x', y', q⟩ := no hf
          refine ⟨x', y', ?_⟩
          unfold bodyF
          have c2' := c2
          unfold absI at c2'
          rw [c1] at c2'
          have key : keyD false (.str (nm c)) = some [.inr (nm c)] := rfl
          simp [i_zp, zip_s, zipQ_s, i_en, en_s, enQ_s, r_put, put_s, r_kg2, kg2_s, i_lc, lcI_s, r_seq, r_seq_nx, r_seq_rt, r_seq_bk, r_seq_ct, r_nil, r_if, r_if_t, r_if_f, r_asg, r_asg_v, r_arg, r_c, r_var, r_var_0, r_var_s, r_bv, r_bv_s, v_c, v_bv, v_var, v_var_0, g1_s, g2_s, r_op1, r_op2, v_op1, v_op2, va_nil, va_cons, consR_s, gN_s, on1_s, r_call, v_call, fn_s, r_fn, v_fn, ow_nil, ow_cons, ownC_s, disp_s, r_tup, r_ktup, r_lst, v_tup, v_ktup, v_lst, t_vl, bl_s, t_nt, not_s, t_an, t_or, and_t, and_f, or_t, or_f, t_tr, tru_s, r_ife, ife_t, ife_f, r_app, app_s, r_aug, aug_s, r_ret, ret_v, ret_r, retB_s, r_par, a_nl, a_cn, cR_s, par_2, r_for, for_s, i_sq, seq_s, i_rg, rng_s, r_frz, frz_s, fin_rt, fin_nx, l_nil, bind_nm, bindR_s, step_nx, step_rt, initE, List.replicate, isBox, gLen, gInt, gMulI, gMod, gFdiv, gAdd, gSub, gCmpI, ix_l, ix_t, ix_k, ix_s, ix_z, gIsN, isNon, sq_l, sq_t, sq_k, cleanD, noBox, noBoxs, bindT, bindTs, Dd.d, at0, at1, gKIn, ks_jp, gKGet, gEq_int, hgs, c1, gDGet, key, hkm, hpm, hpi, gAbs, c2']
          simpa [bodyF, Dd.d] using q
      · have hf : farAt ds0 t i = false := by rw [hfar, decide_eq_false c1, Bool.false_and]
        obtain ⟨x', y', q⟩ := no hf
        refine ⟨x', y', ?_⟩
        unfold bodyF
        simp [i_zp, zip_s, zipQ_s, i_en, en_s, enQ_s, r_put, put_s, r_kg2, kg2_s, i_lc, lcI_s, r_seq, r_seq_nx, r_seq_rt, r_seq_bk, r_seq_ct, r_nil, r_if, r_if_t, r_if_f, r_asg, r_asg_v, r_arg, r_c, r_var, r_var_0, r_var_s, r_bv, r_bv_s, v_c, v_bv, v_var, v_var_0, g1_s, g2_s, r_op1, r_op2, v_op1, v_op2, va_nil, va_cons, consR_s, gN_s, on1_s, r_call, v_call, fn_s, r_fn, v_fn, ow_nil, ow_cons, ownC_s, disp_s, r_tup, r_ktup, r_lst, v_tup, v_ktup, v_lst, t_vl, bl_s, t_nt, not_s, t_an, t_or, and_t, and_f, or_t, or_f, t_tr, tru_s, r_ife, ife_t, ife_f, r_app, app_s, r_aug, aug_s, r_ret, ret_v, ret_r, retB_s, r_par, a_nl, a_cn, cR_s, par_2, r_for, for_s, i_sq, seq_s, i_rg, rng_s, r_frz, frz_s, fin_rt, fin_nx, l_nil, bind_nm, bindR_s, step_nx, step_rt, initE, List.replicate, isBox, gLen, gInt, gMulI, gMod, gFdiv, gAdd, gSub, gCmpI, ix_l, ix_t, ix_k, ix_s, ix_z, gIsN, isNon, sq_l, sq_t, sq_k, cleanD, noBox, noBoxs, bindT, bindTs, Dd.d, at0, at1, gKIn, ks_jp, gKGet, gEq_int, hgs, c1]
        simpa [bodyF, Dd.d] using q
theorem clean_nats : ∀ cs : List Nat, noBoxs (cs.map fun k => D.int (k : Nat)) = true
  | [] => rfl
  | c :: cs => by
    show (noBox (.int c) && noBoxs _) = true
    rw [clean_nats cs]; rfl
theorem far_ones {r s : D} {b1 b2 : Bool} {t : List Int} {kvs : List (List L2.Key × D)} (ds : List Dd) (ok : Ok2 ds) (hr : seqD r = some (b1, ds.map Dd.d)) (hs : seqD s = some (b2, t.map D.int)) (hl : t.length = ds.length) (hk : ∀ c, valD kvs [.inr (nm c)] = (markFrom 0 ds c).map fun k => .int (k : Nat)) :
    m_far_ones [r, s, .dct false kvs] = some (1, .lst ((farL ds t).map fun k => .int (k : Nat))) := by
  rw [show m_far_ones [r, s, .dct false kvs] = finR (b_far_ones (initE 7 [r, s, .dct false kvs])) from r_m rfl]
  have h10 := ok.ln
  obtain ⟨x', y', q⟩ := far_loop (r := r) ds ok hs hl hk ds 0 [] none none (fun j => by rw [Nat.zero_add]) (by simp; omega)
  have hp := places_of r s b1 b2 (ds.map Dd.d) t hr hs (by simp [hl]) (by omega)
  unfold b_far_ones
  unfold bodyF at q
  rw [← List.range_eq_range'] at q
  simp only [List.nil_append, List.map_nil] at q
  simp [i_zp, zip_s, zipQ_s, i_en, en_s, enQ_s, r_put, put_s, r_kg2, kg2_s, i_lc, lcI_s, r_seq, r_seq_nx, r_seq_rt, r_seq_bk, r_seq_ct, r_nil, r_if, r_if_t, r_if_f, r_asg, r_asg_v, r_arg, r_c, r_var, r_var_0, r_var_s, r_bv, r_bv_s, v_c, v_bv, v_var, v_var_0, g1_s, g2_s, r_op1, r_op2, v_op1, v_op2, va_nil, va_cons, consR_s, gN_s, on1_s, r_call, v_call, fn_s, r_fn, v_fn, ow_nil, ow_cons, ownC_s, disp_s, r_tup, r_ktup, r_lst, v_tup, v_ktup, v_lst, t_vl, bl_s, t_nt, not_s, t_an, t_or, and_t, and_f, or_t, or_f, t_tr, tru_s, r_ife, ife_t, ife_f, r_app, app_s, r_aug, aug_s, r_ret, ret_v, ret_r, retB_s, r_par, a_nl, a_cn, cR_s, par_2, r_for, for_s, i_sq, seq_s, i_rg, rng_s, r_frz, frz_s, fin_rt, fin_nx, l_nil, bind_nm, bindR_s, step_nx, step_rt, initE, List.replicate, isBox, gLen, gInt, gMulI, gMod, gFdiv, gAdd, gSub, gCmpI, ix_l, ix_t, ix_k, ix_s, ix_z, gIsN, isNon, sq_l, sq_t, sq_k, cleanD, noBox, noBoxs, hp, hr, q]
  unfold farL
  simp
/-! least_sizes -/
theorem compL_em {α : Type} {t : Tg} {T : Fb} {A : Fe} {ρ : Pv.Env} {em X : α → D} {p : α → Bool} : ∀ {as : List α}, (∀ a ∈ as, ∃ ρ1, bindT t (0, em a) ρ = some ρ1 ∧ T ρ1 = some (p a) ∧ (p a = true → ∃ k, A ρ1 = some (.v k (X a)))) → compL t T A 0 ρ (as.map em) = some ((as.filter p).map X)
  | [], _ => rfl
  | d :: ds, h => by
    have ih := compL_em (X := X) (p := p) (as := ds) fun d' hd => h d' (List.mem_cons_of_mem _ hd)
    obtain ⟨ρ1, h1, h2, h3⟩ := h d List.mem_cons_self
    show ((bindT t (0, em d) ρ).bind _) = _
    rw [h1]
    dsimp only [Option.bind_some]
    rw [h2]
    dsimp only [Option.bind_some]
    cases hp : p d with
    | true =>
      obtain ⟨k, h4⟩ := h3 hp
      rw [if_pos rfl, h4]
      dsimp only [Option.bind_some]
      rw [if_pos (by rfl), ih, List.filter_cons_of_pos hp]
      rfl
    | false =>
      rw [if_neg Bool.false_ne_true, ih, List.filter_cons_of_neg (by rw [hp]; exact Bool.false_ne_true)]
theorem setAt_nat (t : List D) (k : Nat) (v : D) (h : k < t.length) : setAt t (k : Int) v = some (t.set k v) := by
  unfold setAt
  rw [ixN_at h]; rfl
def bodyS : Fs := sSet 1 (pBv 4) (pOp1 (gKGet k_LONG) (pOp2 gIx (pOp2 gIx (pBv 0) (pBv 4)) (pC (.int 0))))
theorem set_loop {r : D} {b1 : Bool} {ds : List Dd} (hr : seqD r = some (b1, ds.map Dd.d)) (m f : W) (z : Option W) : ∀ (fs : List Nat) (t : List Int) (x : Option W), (∀ k ∈ fs, ∃ b c, ds[k]? = some (.jp b c)) → t.length = ds.length →
    ∃ x', loopF (.nm 4) bodyS (fs.map fun k => .int (k : Nat)) [some (0, r), some (1, .lst (t.map D.int)), some m, some f, x, z] = some (.nx, [some (0, r), some (1, .lst ((step ds fs t).map D.int)), some m, some f, x', z])
  | [], t, x, _, _ => ⟨x, rfl⟩
  | k :: fs, t, x, h, hl => by
    obtain ⟨b, c, hk⟩ := h k List.mem_cons_self
    have hkl : k < ds.length := (List.getElem?_eq_some_iff.mp hk).1
    obtain ⟨x', q⟩ := set_loop hr m f z fs (t.set k (lgAt ds k)) (some (0, .int (k : Nat))) (fun j hj => h j (List.mem_cons_of_mem _ hj)) (by rw [List.length_set]; exact hl)
    refine ⟨x', ?_⟩
    rw [List.map_cons, l_cons]
    have hat : gIx (0, r) (0, .int (k : Int)) = some (0, Dd.d (.jp b c)) := by
      have : L2.atI (ds.map Dd.d) (k : Int) = some (Dd.d (.jp b c)) := L2.atI_nat (by rw [List.getElem?_map, hk]; rfl)
      cases r <;> first | (cases hr; done) | skip
      all_goals (cases hr; simp [ix_l, ix_t, ix_k, this])
    have hs : bodyS [some (0, r), some (1, .lst (t.map D.int)), some m, some f, some (0, .int (k : Nat)), z] = some (.nx, [some (0, r), some (1, .lst ((t.set k (lgAt ds k)).map D.int)), some m, some f, some (0, .int (k : Nat)), z]) := by
      unfold bodyS
      rw [r_set (j := 0) (d := .int (lg b)) (ds := t.map D.int) (k := 0) (m := (k : Int)) (ds' := (t.map D.int).set k (.int (lg b))) ?_ rfl (by rw [v_bv]; rfl) (setAt_nat _ _ _ (by simp; omega))]
      · simp [List.map_set, lgAt, hk]
      · simp [i_zp, zip_s, zipQ_s, i_en, en_s, enQ_s, r_put, put_s, r_kg2, kg2_s, i_lc, lcI_s, r_seq, r_seq_nx, r_seq_rt, r_seq_bk, r_seq_ct, r_nil, r_if, r_if_t, r_if_f, r_asg, r_asg_v, r_arg, r_c, r_var, r_var_0, r_var_s, r_bv, r_bv_s, v_c, v_bv, v_var, v_var_0, g1_s, g2_s, r_op1, r_op2, v_op1, v_op2, va_nil, va_cons, consR_s, gN_s, on1_s, r_call, v_call, fn_s, r_fn, v_fn, ow_nil, ow_cons, ownC_s, disp_s, r_tup, r_ktup, r_lst, v_tup, v_ktup, v_lst, t_vl, bl_s, t_nt, not_s, t_an, t_or, and_t, and_f, or_t, or_f, t_tr, tru_s, r_ife, ife_t, ife_f, r_app, app_s, r_aug, aug_s, r_ret, ret_v, ret_r, retB_s, r_par, a_nl, a_cn, cR_s, par_2, r_for, for_s, i_sq, seq_s, i_rg, rng_s, r_frz, frz_s, fin_rt, fin_nx, l_nil, bind_nm, bindR_s, step_nx, step_rt, initE, List.replicate, isBox, gLen, gInt, gMulI, gMod, gFdiv, gAdd, gSub, gCmpI, ix_l, ix_t, ix_k, ix_s, ix_z, gIsN, isNon, sq_l, sq_t, sq_k, cleanD, noBox, noBoxs, hat, Dd.d, at0, gKGet, kl_jp]
    rw [bind_nm, if_pos (by simp), bindR_s]
    show stepL _ _ _ (bodyS [some (0, r), some (1, .lst (t.map D.int)), some m, some f, some (0, .int (k : Nat)), z]) = _
    rw [hs, step_nx]
    exact q
def bodyW : Fs := bFrz 3 (bSeq (sFor (iSeq (pVar 3)) (.nm 4) bodyS) (sAsg 3 (pFn m_far_ones [] (aCons (pBv 0) (aCons (pBv 1) (aCons (pBv 2) aNil))))))
theorem w_loop {r : D} {b1 : Bool} {ds : List Dd} {kvs : List (List L2.Key × D)} (ok : Ok2 ds) (hr : seqD r = some (b1, ds.map Dd.d)) (hk : ∀ c, valD kvs [.inr (nm c)] = (markFrom 0 ds c).map fun k => .int (k : Nat)) (z : Option W) : ∀ (n fuel : Nat) (t : List Int) (x : Option W), n < fuel → 160 - t.sum ≤ n → Inv ds t →
    ∃ (t' : List Int) (x' : Option W), Inv ds t' ∧ farL ds t' = [] ∧ loopW (bTru (pBv 3)) bodyW fuel [some (0, r), some (1, .lst (t.map D.int)), some (1, .dct false kvs), some (1, .lst ((farL ds t).map fun k => .int (k : Nat))), x, z] = some (.nx, [some (0, r), some (1, .lst (t'.map D.int)), some (1, .dct false kvs), some (1, .lst []), x', z])
  | n, 0, t, x, hf, _, _ => absurd hf (Nat.not_lt_zero _)
  | n, fuel + 1, t, x, hf, hs, I => by
    by_cases he : farL ds t = []
    · refine ⟨t, x, I, he, ?_⟩
      rw [w_stop (by simp [i_zp, zip_s, zipQ_s, i_en, en_s, enQ_s, r_put, put_s, r_kg2, kg2_s, i_lc, lcI_s, r_seq, r_seq_nx, r_seq_rt, r_seq_bk, r_seq_ct, r_nil, r_if, r_if_t, r_if_f, r_asg, r_asg_v, r_arg, r_c, r_var, r_var_0, r_var_s, r_bv, r_bv_s, v_c, v_bv, v_var, v_var_0, g1_s, g2_s, r_op1, r_op2, v_op1, v_op2, va_nil, va_cons, consR_s, gN_s, on1_s, r_call, v_call, fn_s, r_fn, v_fn, ow_nil, ow_cons, ownC_s, disp_s, r_tup, r_ktup, r_lst, v_tup, v_ktup, v_lst, t_vl, bl_s, t_nt, not_s, t_an, t_or, and_t, and_f, or_t, or_f, t_tr, tru_s, r_ife, ife_t, ife_f, r_app, app_s, r_aug, aug_s, r_ret, ret_v, ret_r, retB_s, r_par, a_nl, a_cn, cR_s, par_2, r_for, for_s, i_sq, seq_s, i_rg, rng_s, r_frz, frz_s, fin_rt, fin_nx, l_nil, bind_nm, bindR_s, step_nx, step_rt, initE, List.replicate, isBox, gLen, gInt, gMulI, gMod, gFdiv, gAdd, gSub, gCmpI, ix_l, ix_t, ix_k, ix_s, ix_z, gIsN, isNon, sq_l, sq_t, sq_k, cleanD, noBox, noBoxs, he, truth]), he]
      rfl
    · have hlt := step_sum I.ch he
      have I2 := inv_step ok I
      have htop : (step ds (farL ds t) t).sum ≤ 160 := by
        have h1 := sum_top (t := step ds (farL ds t) t) fun k s h => (opt_nonneg ok I2.ch h).2
        have h2 := I2.ch.ln
        have h3 := ok.ln
        omega
      cases n with
      | zero => omega
      | succ n =>
        obtain ⟨x1, q1⟩ := set_loop (ds := ds) hr (1, .dct false kvs) (0, .lst ((farL ds t).map fun k => .int (k : Nat))) z (farL ds t) t x (fun k h => by
          obtain ⟨b, c, h1, _⟩ := far_jp (mem_far.mp h).2
          exact ⟨b, c, h1⟩) I.ch.ln
        obtain ⟨t', x', p1, p2, p3⟩ := w_loop ok hr hk z n fuel (step ds (farL ds t) t) x1 (by omega) (by omega) I2
        refine ⟨t', x', p1, p2, ?_⟩
        have hfo := far_ones (r := r) (s := .lst ((step ds (farL ds t) t).map D.int)) (b2 := true) ds ok hr rfl I2.ch.ln hk
        rw [w_go (ρ1 := [some (0, r), some (1, .lst ((step ds (farL ds t) t).map D.int)), some (1, .dct false kvs), some (1, .lst ((farL ds (step ds (farL ds t) t)).map fun k => .int (k : Nat))), x1, z]) ?_ ?_]
        · exact p3
        · simp [i_zp, zip_s, zipQ_s, i_en, en_s, enQ_s, r_put, put_s, r_kg2, kg2_s, i_lc, lcI_s, r_seq, r_seq_nx, r_seq_rt, r_seq_bk, r_seq_ct, r_nil, r_if, r_if_t, r_if_f, r_asg, r_asg_v, r_arg, r_c, r_var, r_var_0, r_var_s, r_bv, r_bv_s, v_c, v_bv, v_var, v_var_0, g1_s, g2_s, r_op1, r_op2, v_op1, v_op2, va_nil, va_cons, consR_s, gN_s, on1_s, r_call, v_call, fn_s, r_fn, v_fn, ow_nil, ow_cons, ownC_s, disp_s, r_tup, r_ktup, r_lst, v_tup, v_ktup, v_lst, t_vl, bl_s, t_nt, not_s, t_an, t_or, and_t, and_f, or_t, or_f, t_tr, tru_s, r_ife, ife_t, ife_f, r_app, app_s, r_aug, aug_s, r_ret, ret_v, ret_r, retB_s, r_par, a_nl, a_cn, cR_s, par_2, r_for, for_s, i_sq, seq_s, i_rg, rng_s, r_frz, frz_s, fin_rt, fin_nx, l_nil, bind_nm, bindR_s, step_nx, step_rt, initE, List.replicate, isBox, gLen, gInt, gMulI, gMod, gFdiv, gAdd, gSub, gCmpI, ix_l, ix_t, ix_k, ix_s, ix_z, gIsN, isNon, sq_l, sq_t, sq_k, cleanD, noBox, noBoxs, truth, he]
        · unfold bodyW
          simp [i_zp, zip_s, zipQ_s, i_en, en_s, enQ_s, r_put, put_s, r_kg2, kg2_s, i_lc, lcI_s, r_seq, r_seq_nx, r_seq_rt, r_seq_bk, r_seq_ct, r_nil, r_if, r_if_t, r_if_f, r_asg, r_asg_v, r_arg, r_c, r_var, r_var_0, r_var_s, r_bv, r_bv_s, v_c, v_bv, v_var, v_var_0, g1_s, g2_s, r_op1, r_op2, v_op1, v_op2, va_nil, va_cons, consR_s, gN_s, on1_s, r_call, v_call, fn_s, r_fn, v_fn, ow_nil, ow_cons, ownC_s, disp_s, r_tup, r_ktup, r_lst, v_tup, v_ktup, v_lst, t_vl, bl_s, t_nt, not_s, t_an, t_or, and_t, and_f, or_t, or_f, t_tr, tru_s, r_ife, ife_t, ife_f, r_app, app_s, r_aug, aug_s, r_ret, ret_v, ret_r, retB_s, r_par, a_nl, a_cn, cR_s, par_2, r_for, for_s, i_sq, seq_s, i_rg, rng_s, r_frz, frz_s, fin_rt, fin_nx, l_nil, bind_nm, bindR_s, step_nx, step_rt, initE, List.replicate, isBox, gLen, gInt, gMulI, gMod, gFdiv, gAdd, gSub, gCmpI, ix_l, ix_t, ix_k, ix_s, ix_z, gIsN, isNon, sq_l, sq_t, sq_k, cleanD, noBox, noBoxs, q1, hfo]
theorem least_sizes (r : D) (b1 : Bool) (ds : List Dd) (ok : Ok2 ds) (hr : seqD r = some (b1, ds.map Dd.d)) : ∃ t, Inv ds t ∧ (∀ k, farAt ds t k = false) ∧ m_least_sizes [r] = some (0, .tup (t.map D.int)) := by
  rw [show m_least_sizes [r] = finR (b_least_sizes (initE 6 [r])) from r_m rfl]
  have h10 := ok.ln
  obtain ⟨kvs, hk, hm⟩ := marks_of r b1 ds hr (by omega)
  have I0 := inv0 ok
  obtain ⟨t', x', p1, p2, p3⟩ := w_loop ok hr hk none 500 1000000 (ds.map s0) none (by decide) (by
    have : (0 : Int) ≤ (ds.map s0).sum := by
      have : ∀ {t : List Int}, (∀ (k : Nat) (s : Int), t[k]? = some s → 0 ≤ s) → 0 ≤ t.sum := by
        intro t
        induction t with
        | nil => intro _; exact Int.le_refl _
        | cons a t ih =>
          intro h
          have h1 := ih fun k s hs => h (k + 1) s (by simpa using hs)
          have h2 := h 0 a rfl
          simp only [List.sum_cons]
          omega
      exact this fun k s hs => (opt_nonneg ok I0.ch hs).1
    omega) I0
  refine ⟨t', p1, fun k => ?_, ?_⟩
  · cases hf : farAt ds t' k with
    | false => rfl
    | true =>
      have hk : k < ds.length := by
        obtain ⟨b, c, h1, _⟩ := far_jp hf
        exact (List.getElem?_eq_some_iff.mp h1).1
      have : k ∈ farL ds t' := mem_far.mpr ⟨hk, hf⟩
      rw [p2] at this
      cases this
  · have hlc : pLc 0 (iSeq (pVar 0)) (.nm 5) [5] bYes (pIf (bVal (pOp2 gEq (pOp2 gIx (pBv 5) (pC (.int 0))) (pC (.str "do")))) (pOp2 gIx (pBv 5) (pC (.int 1))) (pKGet2 k_SHORT (pOp2 gIx (pBv 5) (pC (.int 0))) (pC (.int 0)))) [some (0, r), none, none, none, none, none] = some (.v 1 (.lst ((ds.map s0).map D.int))) := by
      refine r_lc (ds := ds.map Dd.d) (by rfl) (by simp [i_zp, zip_s, zipQ_s, i_en, en_s, enQ_s, r_put, put_s, r_kg2, kg2_s, i_lc, lcI_s, r_seq, r_seq_nx, r_seq_rt, r_seq_bk, r_seq_ct, r_nil, r_if, r_if_t, r_if_f, r_asg, r_asg_v, r_arg, r_c, r_var, r_var_0, r_var_s, r_bv, r_bv_s, v_c, v_bv, v_var, v_var_0, g1_s, g2_s, r_op1, r_op2, v_op1, v_op2, va_nil, va_cons, consR_s, gN_s, on1_s, r_call, v_call, fn_s, r_fn, v_fn, ow_nil, ow_cons, ownC_s, disp_s, r_tup, r_ktup, r_lst, v_tup, v_ktup, v_lst, t_vl, bl_s, t_nt, not_s, t_an, t_or, and_t, and_f, or_t, or_f, t_tr, tru_s, r_ife, ife_t, ife_f, r_app, app_s, r_aug, aug_s, r_ret, ret_v, ret_r, retB_s, r_par, a_nl, a_cn, cR_s, par_2, r_for, for_s, i_sq, seq_s, i_rg, rng_s, r_frz, frz_s, fin_rt, fin_nx, l_nil, bind_nm, bindR_s, step_nx, step_rt, initE, List.replicate, isBox, gLen, gInt, gMulI, gMod, gFdiv, gAdd, gSub, gCmpI, ix_l, ix_t, ix_k, ix_s, ix_z, gIsN, isNon, sq_l, sq_t, sq_k, cleanD, noBox, noBoxs, hr]) (by simp [Pv.big]; omega) ?_
      rw [show (ds.map s0).map D.int = (ds.filter fun _ => true).map (fun d => D.int (s0 d)) by rw [List.filter_eq_self.mpr (fun _ _ => rfl), List.map_map]; rfl]
      refine compL_em fun d _ => ⟨[some (0, r), none, none, none, none, some (0, d.d)], by simp [bindT, wipeE], rfl, fun _ => ⟨0, ?_⟩⟩
      cases d with
      | jp b c => simp [i_zp, zip_s, zipQ_s, i_en, en_s, enQ_s, r_put, put_s, r_kg2, kg2_s, i_lc, lcI_s, r_seq, r_seq_nx, r_seq_rt, r_seq_bk, r_seq_ct, r_nil, r_if, r_if_t, r_if_f, r_asg, r_asg_v, r_arg, r_c, r_var, r_var_0, r_var_s, r_bv, r_bv_s, v_c, v_bv, v_var, v_var_0, g1_s, g2_s, r_op1, r_op2, v_op1, v_op2, va_nil, va_cons, consR_s, gN_s, on1_s, r_call, v_call, fn_s, r_fn, v_fn, ow_nil, ow_cons, ownC_s, disp_s, r_tup, r_ktup, r_lst, v_tup, v_ktup, v_lst, t_vl, bl_s, t_nt, not_s, t_an, t_or, and_t, and_f, or_t, or_f, t_tr, tru_s, r_ife, ife_t, ife_f, r_app, app_s, r_aug, aug_s, r_ret, ret_v, ret_r, retB_s, r_par, a_nl, a_cn, cR_s, par_2, r_for, for_s, i_sq, seq_s, i_rg, rng_s, r_frz, frz_s, fin_rt, fin_nx, l_nil, bind_nm, bindR_s, step_nx, step_rt, initE, List.replicate, isBox, gLen, gInt, gMulI, gMod, gFdiv, gAdd, gSub, gCmpI, ix_l, ix_t, ix_k, ix_s, ix_z, gIsN, isNon, sq_l, sq_t, sq_k, cleanD, noBox, noBoxs, Dd.d, at0, at1, gEq_str, kd_do, ks_jp, s0]
      | dd n => simp [i_zp, zip_s, zipQ_s, i_en, en_s, enQ_s, r_put, put_s, r_kg2, kg2_s, i_lc, lcI_s, r_seq, r_seq_nx, r_seq_rt, r_seq_bk, r_seq_ct, r_nil, r_if, r_if_t, r_if_f, r_asg, r_asg_v, r_arg, r_c, r_var, r_var_0, r_var_s, r_bv, r_bv_s, v_c, v_bv, v_var, v_var_0, g1_s, g2_s, r_op1, r_op2, v_op1, v_op2, va_nil, va_cons, consR_s, gN_s, on1_s, r_call, v_call, fn_s, r_fn, v_fn, ow_nil, ow_cons, ownC_s, disp_s, r_tup, r_ktup, r_lst, v_tup, v_ktup, v_lst, t_vl, bl_s, t_nt, not_s, t_an, t_or, and_t, and_f, or_t, or_f, t_tr, tru_s, r_ife, ife_t, ife_f, r_app, app_s, r_aug, aug_s, r_ret, ret_v, ret_r, retB_s, r_par, a_nl, a_cn, cR_s, par_2, r_for, for_s, i_sq, seq_s, i_rg, rng_s, r_frz, frz_s, fin_rt, fin_nx, l_nil, bind_nm, bindR_s, step_nx, step_rt, initE, List.replicate, isBox, gLen, gInt, gMulI, gMod, gFdiv, gAdd, gSub, gCmpI, ix_l, ix_t, ix_k, ix_s, ix_z, gIsN, isNon, sq_l, sq_t, sq_k, cleanD, noBox, noBoxs, Dd.d, at0, at1, gEq_str, s0]
      | mk c => simp [i_zp, zip_s, zipQ_s, i_en, en_s, enQ_s, r_put, put_s, r_kg2, kg2_s, i_lc, lcI_s, r_seq, r_seq_nx, r_seq_rt, r_seq_bk, r_seq_ct, r_nil, r_if, r_if_t, r_if_f, r_asg, r_asg_v, r_arg, r_c, r_var, r_var_0, r_var_s, r_bv, r_bv_s, v_c, v_bv, v_var, v_var_0, g1_s, g2_s, r_op1, r_op2, v_op1, v_op2, va_nil, va_cons, consR_s, gN_s, on1_s, r_call, v_call, fn_s, r_fn, v_fn, ow_nil, ow_cons, ownC_s, disp_s, r_tup, r_ktup, r_lst, v_tup, v_ktup, v_lst, t_vl, bl_s, t_nt, not_s, t_an, t_or, and_t, and_f, or_t, or_f, t_tr, tru_s, r_ife, ife_t, ife_f, r_app, app_s, r_aug, aug_s, r_ret, ret_v, ret_r, retB_s, r_par, a_nl, a_cn, cR_s, par_2, r_for, for_s, i_sq, seq_s, i_rg, rng_s, r_frz, frz_s, fin_rt, fin_nx, l_nil, bind_nm, bindR_s, step_nx, step_rt, initE, List.replicate, isBox, gLen, gInt, gMulI, gMod, gFdiv, gAdd, gSub, gCmpI, ix_l, ix_t, ix_k, ix_s, ix_z, gIsN, isNon, sq_l, sq_t, sq_k, cleanD, noBox, noBoxs, Dd.d, at0, at1, gEq_str, mark_do, ks_mark, s0]
    have hfo := far_ones (r := r) (s := .lst ((ds.map s0).map D.int)) (b2 := true) ds ok hr rfl I0.ch.ln hk
    have hc := clean_ints t'
    unfold b_least_sizes
    unfold bodyW bodyS at p3
    have hw : ∀ (n : Nat) (T : Fb) (f : Fs), sWhile n T f = loopW T f n := fun _ _ _ => rfl
    generalize ds.map s0 = t0 at hlc hfo p3
    rw [show (initE 6 [r]) = [some (0, r), none, none, none, none, none] from rfl]
    rw [r_seq, r_asg, hlc, r_asg_v]
    simp [i_zp, zip_s, zipQ_s, i_en, en_s, enQ_s, r_put, put_s, r_kg2, kg2_s, i_lc, lcI_s, r_seq, r_seq_nx, r_seq_rt, r_seq_bk, r_seq_ct, r_nil, r_if, r_if_t, r_if_f, r_asg, r_asg_v, r_arg, r_c, r_var, r_var_0, r_var_s, r_bv, r_bv_s, v_c, v_bv, v_var, v_var_0, g1_s, g2_s, r_op1, r_op2, v_op1, v_op2, va_nil, va_cons, consR_s, gN_s, on1_s, r_call, v_call, fn_s, r_fn, v_fn, ow_nil, ow_cons, ownC_s, disp_s, r_tup, r_ktup, r_lst, v_tup, v_ktup, v_lst, t_vl, bl_s, t_nt, not_s, t_an, t_or, and_t, and_f, or_t, or_f, t_tr, tru_s, r_ife, ife_t, ife_f, r_app, app_s, r_aug, aug_s, r_ret, ret_v, ret_r, retB_s, r_par, a_nl, a_cn, cR_s, par_2, r_for, for_s, i_sq, seq_s, i_rg, rng_s, r_frz, frz_s, fin_rt, fin_nx, l_nil, bind_nm, bindR_s, step_nx, step_rt, initE, List.replicate, isBox, gLen, gInt, gMulI, gMod, gFdiv, gAdd, gSub, gCmpI, ix_l, ix_t, ix_k, ix_s, ix_z, gIsN, isNon, sq_l, sq_t, sq_k, cleanD, noBox, noBoxs, hm, hfo, hw, p3, gTupOf, hc]
end K40
set_option linter.all false
set_option maxRecDepth 100000
namespace K40
open PySem Pv
def pdd : Dd → PyData
  | .jp b c => .tuple [.str (kd b), .str (nm c)]
  | .dd n => .tuple [.str "do", .int n]
  | .mk c => .tuple [.str "mark", .str (nm c)]
theorem toPy_d (d : Dd) : toPy d.d = some (pdd d) := by cases d <;> rfl
theorem toPys_d : ∀ ds : List Dd, toPys (ds.map Dd.d) = some (ds.map pdd)
  | [] => rfl
  | d :: ds => by
    show (toPy d.d).bind _ = _
    rw [toPy_d]
    show (toPys (ds.map Dd.d)).map _ = _
    rw [toPys_d ds]; rfl
theorem kd_ok (b : Bool) : PyData.strOk (kd b) = true := by cases b <;> decide +kernel
theorem lay_d {ds : List Dd} (hj : ∀ b c, Dd.jp b c ∈ ds → PyData.strOk (nm c) = true) (hm : ∀ c, Dd.mk c ∈ ds → PyData.strOk (nm c) = true) : PyData.canLayAll0 (ds.map pdd) = true ∧ PyData.depthAll (ds.map pdd) ≤ 1 := by
  induction ds with
  | nil => exact ⟨rfl, by decide⟩
  | cons d ds ih =>
    obtain ⟨i1, i2⟩ := ih (fun b c h => hj b c (List.mem_cons_of_mem _ h)) (fun c h => hm c (List.mem_cons_of_mem _ h))
    have h1 : (pdd d).canLay0 = true ∧ (pdd d).depth ≤ 1 := by
      cases d with
      | jp b c =>
        have h1 := kd_ok b
        have h2 := hj b c List.mem_cons_self
        refine ⟨?_, by simp [pdd, PyData.depth, PyData.depthAll]⟩
        simp [pdd, PyData.canLay0, PyData.canLayAll0, h1, h2]
      | dd n =>
        refine ⟨?_, by simp [pdd, PyData.depth, PyData.depthAll]⟩
        have : PyData.strOk "do" = true := by decide +kernel
        simp [pdd, PyData.canLay0, PyData.canLayAll0, this]
      | mk c =>
        have h2 := hm c List.mem_cons_self
        have : PyData.strOk "mark" = true := by decide +kernel
        refine ⟨?_, by simp [pdd, PyData.depth, PyData.depthAll]⟩
        simp [pdd, PyData.canLay0, PyData.canLayAll0, this, h2]
    rw [List.map_cons]
    refine ⟨?_, ?_⟩
    · show ((pdd d).canLay0 && PyData.canLayAll0 (ds.map pdd)) = true
      rw [h1.1, i1]; rfl
    · show max (pdd d).depth (PyData.depthAll (ds.map pdd)) ≤ 1
      omega
theorem ok_jp {ds : List Dd} (ok : Ok2 ds) : ∀ b c, Dd.jp b c ∈ ds → PyData.strOk (nm c) = true := fun b c h => ok.ck c (ok.tg b c h)
theorem idx_mark (c : Nat) : ∀ (ds : List Dd) (i : Nat), idxP (.tuple [.str "mark", .str (nm c)]) (ds.map pdd) i = markFrom i ds c
  | [], i => rfl
  | d :: ds, i => by
    rw [List.map_cons]
    unfold idxP
    rw [idx_mark c ds (i + 1)]
    cases d with
    | jp b c' =>
      have : (kd b == "mark") = false := by cases b <;> decide +kernel
      have : PyData.eqv (pdd (.jp b c')) (.tuple [.str "mark", .str (nm c)]) = false := by simp [pdd, PyData.eqv, PyData.eqvAll, this]
      rw [this]; rfl
    | dd n =>
      have : (("do" : Str) == "mark") = false := by decide +kernel
      have : PyData.eqv (pdd (.dd n)) (.tuple [.str "mark", .str (nm c)]) = false := by simp [pdd, PyData.eqv, PyData.eqvAll, this]
      rw [this]; rfl
    | mk c' =>
      have : PyData.eqv (pdd (.mk c')) (.tuple [.str "mark", .str (nm c)]) = decide (c' = c) := by
        simp [pdd, PyData.eqv, PyData.eqvAll]
        by_cases e : c' = c
        · subst e; simp
        · rw [decide_eq_false e]
          exact beq_eq_false_iff_ne.mpr fun z => e (nm_inj.mp z)
      rw [this]
      by_cases e : c' = c
      · subst e; simp [markFrom]
      · simp [markFrom, e]
theorem index {ds : List Dd} (ok : Ok2 ds) (k : Nat) (c : Nat) (m : Nat) (hm : markFrom 0 ds c = some m) (hc : PyData.strOk (nm c) = true) : gTIndex (k, .ktp (ds.map Dd.d)) (0, .tup [.str "mark", .str (nm c)]) = some (0, .int (m : Nat)) := by
  obtain ⟨h1, h2⟩ := lay_d (ok_jp ok) ok.ck
  have e1 : SeqAt.shaped (.tuple (ds.map pdd)) = true := by
    unfold SeqAt.shaped
    rw [Bool.and_eq_true]
    refine ⟨h1, decide_eq_true ?_⟩
    show PyData.depthAll (ds.map pdd) + 1 ≤ 64
    omega
  have hmk : PyData.strOk "mark" = true := by decide +kernel
  have e2 : SeqAt.shaped (.tuple [.str "mark", .str (nm c)]) = true := by
    unfold SeqAt.shaped
    simp [PyData.canLay0, PyData.canLayAll0, PyData.depth, PyData.depthAll, hmk, hc]
  unfold gTIndex
  have e3 : eqOk (0, .tup [.str "mark", .str (nm c)]) = true := rfl
  have e4 : toPy (.tup [.str "mark", .str (nm c)]) = some (.tuple [.str "mark", .str (nm c)]) := rfl
  simp only [e3, if_true, toPys_d, e4, Option.bind_some]
  rw [if_pos ⟨e1, e2⟩, idx_mark, hm]
  rfl
/-! fits -/
def bodyT : Fs := sIf (bAnd (bVal (pOp2 (gIn false) (pOp2 gIx (pOp2 gIx (pBv 0) (pBv 3)) (pC (.int 0))) (pTup (aCons (pC (.str "go")) (aCons (pC (.str "if")) aNil))))) (bVal (pOp2 (gCmpI fun i j => decide (i < j)) (pOp2 gIx (pBv 1) (pBv 3)) (pC (.int 5))))) (bSeq (sAsg 4 (pOp2 gSub (pOp2 gSub (pOp2 gIx (pBv 2) (pOp2 gTIndex (pBv 0) (pTup (aCons (pC (.str "mark")) (aCons (pOp2 gIx (pOp2 gIx (pBv 0) (pBv 3)) (pC (.int 1))) aNil))))) (pOp2 gIx (pBv 2) (pBv 3))) (pOp2 gIx (pBv 1) (pBv 3)))) (sIf (bNot (bVal (pChain (gCmpI fun i j => decide (i ≤ j)) (gCmpI fun i j => decide (i ≤ j)) (pOp1 gNeg (pC (.int 10))) (pBv 4) (pC (.int 10))))) (sRet (pC (.bl false))) bNil)) bNil
theorem v_chain {g g' : W → W → Option W} {A B C : Fe} {ρ : Pv.Env} {u v z : W} {b1 b2 : Bool} (h1 : val A ρ = some u) (h2 : val B ρ = some v) (h3 : val C ρ = some z) (h4 : g u v = some (0, .bl b1)) (h5 : g' v z = some (0, .bl b2)) : val (pChain g g' A B C) ρ = some (0, .bl (b1 && b2)) := by
  unfold val
  have e : pChain g g' A B C ρ = some (.v 0 (.bl (b1 && b2))) := by
    unfold pChain
    rw [h1, h2]
    dsimp only [Option.bind_some]
    rw [h4]
    dsimp only [Option.bind_some]
    cases b1 with
    | true =>
      dsimp only
      rw [h3]
      dsimp only [Option.bind_some]
      rw [h5]; rfl
    | false => rfl
  rw [e]; rfl
theorem in_kd (b : Bool) (k : Nat) : gIn false (k, .str (kd b)) (0, .tup [.str "go", .str "if"]) = some (0, .bl true) := by cases b <;> rfl
theorem in_do (k : Nat) : gIn false (k, .str "do") (0, .tup [.str "go", .str "if"]) = some (0, .bl false) := by rfl
theorem in_mark (k : Nat) : gIn false (k, .str "mark") (0, .tup [.str "go", .str "if"]) = some (0, .bl false) := by rfl
theorem fit_loop {s : D} {bb : Bool} {t : List Int} {ds : List Dd} (ok : Ok2 ds) (hs : seqD s = some (bb, t.map D.int)) (ht : Ch ds t) : ∀ (n i : Nat) (x y : Option W), i + n = ds.length →
    (∃ x' y', (∀ k, i ≤ k → k < ds.length → farAt ds t k = false) ∧ loopF (.nm 3) bodyT (rngD i n) [some (0, .ktp (ds.map Dd.d)), some (0, s), some (1, .lst ((placesFrom 0 t).map D.int)), x, y] = some (.nx, [some (0, .ktp (ds.map Dd.d)), some (0, s), some (1, .lst ((placesFrom 0 t).map D.int)), x', y'])) ∨
    (∃ k ρ', farAt ds t k = true ∧ loopF (.nm 3) bodyT (rngD i n) [some (0, .ktp (ds.map Dd.d)), some (0, s), some (1, .lst ((placesFrom 0 t).map D.int)), x, y] = some (.rt (0, .bl false), ρ'))
  | 0, i, x, y, h => .inl ⟨x, y, fun k h1 h2 => absurd h2 (by omega), rfl⟩
  | n + 1, i, x, y, h => by
    have hi : i < ds.length := by omega
    have hit : i < t.length := by rw [ht.ln]; exact hi
    have h0 : ds[i]? = some ds[i] := List.getElem?_eq_getElem hi
    have hat : L2.atI (ds.map Dd.d) (i : Int) = some (ds[i].d) := L2.atI_nat (by rw [List.getElem?_map, h0]; rfl)
    have hgs : ∀ k, gIx (0, s) (k, .int (i : Int)) = some (0, .int t[i]) := fun k => gIx_seq hs k i hit
    have hti : t[i]? = some t[i] := List.getElem?_eq_getElem hit
    rw [rng_succN, l_cons]
    have go : ∀ (y2 : Option W), farAt ds t i = false → bodyT [some (0, .ktp (ds.map Dd.d)), some (0, s), some (1, .lst ((placesFrom 0 t).map D.int)), some (0, .int (i : Int)), y] = some (.nx, [some (0, .ktp (ds.map Dd.d)), some (0, s), some (1, .lst ((placesFrom 0 t).map D.int)), some (0, .int (i : Int)), y2]) →
        (∃ x' y', (∀ k, i ≤ k → k < ds.length → farAt ds t k = false) ∧ bindR (.nm 3) bodyT (rngD ((i + 1 : Nat) : Int) n) (bindT (.nm 3) (0, .int (i : Int)) [some (0, .ktp (ds.map Dd.d)), some (0, s), some (1, .lst ((placesFrom 0 t).map D.int)), x, y]) = some (.nx, [some (0, .ktp (ds.map Dd.d)), some (0, s), some (1, .lst ((placesFrom 0 t).map D.int)), x', y'])) ∨
        (∃ k ρ', farAt ds t k = true ∧ bindR (.nm 3) bodyT (rngD ((i + 1 : Nat) : Int) n) (bindT (.nm 3) (0, .int (i : Int)) [some (0, .ktp (ds.map Dd.d)), some (0, s), some (1, .lst ((placesFrom 0 t).map D.int)), x, y]) = some (.rt (0, .bl false), ρ')) := fun y2 hf hb => by
      have e : bindR (.nm 3) bodyT (rngD ((i + 1 : Nat) : Int) n) (bindT (.nm 3) (0, .int (i : Int)) [some (0, .ktp (ds.map Dd.d)), some (0, s), some (1, .lst ((placesFrom 0 t).map D.int)), x, y]) = loopF (.nm 3) bodyT (rngD ((i + 1 : Nat) : Int) n) [some (0, .ktp (ds.map Dd.d)), some (0, s), some (1, .lst ((placesFrom 0 t).map D.int)), some (0, .int (i : Int)), y2] := by
        rw [bind_nm, if_pos (by simp), bindR_s]
        show stepL _ _ _ (bodyT [some (0, .ktp (ds.map Dd.d)), some (0, s), some (1, .lst ((placesFrom 0 t).map D.int)), some (0, .int (i : Int)), y]) = _
        rw [hb, step_nx]
      rw [e]
      rcases fit_loop ok hs ht n (i + 1) (some (0, .int (i : Int))) y2 (by omega) with ⟨x', y', q1, q2⟩ | ⟨k, ρ', q1, q2⟩
      · refine .inl ⟨x', y', fun k h1 h2 => ?_, q2⟩
        by_cases e : i = k
        · subst e; exact hf
        · exact q1 k (by omega) h2
      · exact .inr ⟨k, ρ', q1, q2⟩
    cases hd : ds[i] with
    | dd m =>
      rw [hd] at h0 hat
      refine go y (by unfold farAt; rw [h0]) ?_
      unfold bodyT
      simp [i_zp, zip_s, zipQ_s, i_en, en_s, enQ_s, r_put, put_s, r_kg2, kg2_s, i_lc, lcI_s, r_seq, r_seq_nx, r_seq_rt, r_seq_bk, r_seq_ct, r_nil, r_if, r_if_t, r_if_f, r_asg, r_asg_v, r_arg, r_c, r_var, r_var_0, r_var_s, r_bv, r_bv_s, v_c, v_bv, v_var, v_var_0, g1_s, g2_s, r_op1, r_op2, v_op1, v_op2, va_nil, va_cons, consR_s, gN_s, on1_s, r_call, v_call, fn_s, r_fn, v_fn, ow_nil, ow_cons, ownC_s, disp_s, r_tup, r_ktup, r_lst, v_tup, v_ktup, v_lst, t_vl, bl_s, t_nt, not_s, t_an, t_or, and_t, and_f, or_t, or_f, t_tr, tru_s, r_ife, ife_t, ife_f, r_app, app_s, r_aug, aug_s, r_ret, ret_v, ret_r, retB_s, r_par, a_nl, a_cn, cR_s, par_2, r_for, for_s, i_sq, seq_s, i_rg, rng_s, r_frz, frz_s, fin_rt, fin_nx, l_nil, bind_nm, bindR_s, step_nx, step_rt, initE, List.replicate, isBox, gLen, gInt, gMulI, gMod, gFdiv, gAdd, gSub, gCmpI, ix_l, ix_t, ix_k, ix_s, ix_z, gIsN, isNon, sq_l, sq_t, sq_k, cleanD, noBox, noBoxs, hat, Dd.d, at0, at1, in_do]
    | mk c =>
      rw [hd] at h0 hat
      refine go y (by unfold farAt; rw [h0]) ?_
      unfold bodyT
      simp [i_zp, zip_s, zipQ_s, i_en, en_s, enQ_s, r_put, put_s, r_kg2, kg2_s, i_lc, lcI_s, r_seq, r_seq_nx, r_seq_rt, r_seq_bk, r_seq_ct, r_nil, r_if, r_if_t, r_if_f, r_asg, r_asg_v, r_arg, r_c, r_var, r_var_0, r_var_s, r_bv, r_bv_s, v_c, v_bv, v_var, v_var_0, g1_s, g2_s, r_op1, r_op2, v_op1, v_op2, va_nil, va_cons, consR_s, gN_s, on1_s, r_call, v_call, fn_s, r_fn, v_fn, ow_nil, ow_cons, ownC_s, disp_s, r_tup, r_ktup, r_lst, v_tup, v_ktup, v_lst, t_vl, bl_s, t_nt, not_s, t_an, t_or, and_t, and_f, or_t, or_f, t_tr, tru_s, r_ife, ife_t, ife_f, r_app, app_s, r_aug, aug_s, r_ret, ret_v, ret_r, retB_s, r_par, a_nl, a_cn, cR_s, par_2, r_for, for_s, i_sq, seq_s, i_rg, rng_s, r_frz, frz_s, fin_rt, fin_nx, l_nil, bind_nm, bindR_s, step_nx, step_rt, initE, List.replicate, isBox, gLen, gInt, gMulI, gMod, gFdiv, gAdd, gSub, gCmpI, ix_l, ix_t, ix_k, ix_s, ix_z, gIsN, isNon, sq_l, sq_t, sq_k, cleanD, noBox, noBoxs, hat, Dd.d, at0, at1, in_mark]
    | jp b c =>
      rw [hd] at h0 hat
      obtain ⟨m, hm, hml, _⟩ := mark_of ok h0
      have hpm := atI_places t m (by rw [ht.ln]; exact hml)
      have hpi := atI_places t i hit
      have hidx := fun k => index ok k c m hm (ok_jp ok b c (List.mem_of_getElem? h0))
      have ho := ht.op i _ _ h0 hti
      simp only [opts, List.mem_cons, List.not_mem_nil, or_false] at ho
      have hfar : farAt ds t i = (decide (t[i] = sh b) && decide (10 < absI (PP t m - PP t i - t[i]))) := by
        unfold farAt
        rw [h0]
        dsimp only
        rw [hti, hm]
      by_cases c1 : t[i] = sh b
      · have h5 : t[i] < 5 := by rw [c1]; cases b <;> simp [sh]
        have ha : gNeg (0, D.int 10) = some (0, .int (-10)) := rfl
        by_cases c2 : 10 < absI (PP t m - PP t i - t[i])
        · refine .inr ⟨i, [some (0, .ktp (ds.map Dd.d)), some (0, s), some (1, .lst ((placesFrom 0 t).map D.int)), some (0, .int (i : Int)), some (0, .int (PP t m - PP t i - t[i]))], by rw [hfar, decide_eq_true c1, decide_eq_true c2]; rfl, ?_⟩
          rw [bind_nm, if_pos (by simp), bindR_s]
          have hc : (decide (-10 ≤ PP t m - PP t i - t[i]) && decide (PP t m - PP t i - t[i] ≤ 10)) = false := by
            unfold absI at c2
            split at c2
            · rw [decide_eq_false (by omega)]; rfl
            · rw [decide_eq_false (p := _ ≤ (10 : Int)) (by omega), Bool.and_false]
          unfold bodyT
          have vc : ∀ ρ : Pv.Env, val (pBv 4) ρ = some (0, .int (PP t m - PP t i - t[i])) → val (pChain (gCmpI fun i j => decide (i ≤ j)) (gCmpI fun i j => decide (i ≤ j)) (pOp1 gNeg (pC (.int 10))) (pBv 4) (pC (.int 10))) ρ = some (0, .bl false) := fun ρ hv => by
            rw [v_chain (u := (0, .int (-10))) (v := (0, .int (PP t m - PP t i - t[i]))) (z := (0, .int 10)) (b1 := decide (-10 ≤ PP t m - PP t i - t[i])) (b2 := decide (PP t m - PP t i - t[i] ≤ 10)) (by rw [v_op1, v_c]; rfl) hv rfl rfl rfl, hc]
          simp [i_zp, zip_s, zipQ_s, i_en, en_s, enQ_s, r_put, put_s, r_kg2, kg2_s, i_lc, lcI_s, r_seq, r_seq_nx, r_seq_rt, r_seq_bk, r_seq_ct, r_nil, r_if, r_if_t, r_if_f, r_asg, r_asg_v, r_arg, r_c, r_var, r_var_0, r_var_s, r_bv, r_bv_s, v_c, v_bv, v_var, v_var_0, g1_s, g2_s, r_op1, r_op2, v_op1, v_op2, va_nil, va_cons, consR_s, gN_s, on1_s, r_call, v_call, fn_s, r_fn, v_fn, ow_nil, ow_cons, ownC_s, disp_s, r_tup, r_ktup, r_lst, v_tup, v_ktup, v_lst, t_vl, bl_s, t_nt, not_s, t_an, t_or, and_t, and_f, or_t, or_f, t_tr, tru_s, r_ife, ife_t, ife_f, r_app, app_s, r_aug, aug_s, r_ret, ret_v, ret_r, retB_s, r_par, a_nl, a_cn, cR_s, par_2, r_for, for_s, i_sq, seq_s, i_rg, rng_s, r_frz, frz_s, fin_rt, fin_nx, l_nil, bind_nm, bindR_s, step_nx, step_rt, initE, List.replicate, isBox, gLen, gInt, gMulI, gMod, gFdiv, gAdd, gSub, gCmpI, ix_l, ix_t, ix_k, ix_s, ix_z, gIsN, isNon, sq_l, sq_t, sq_k, cleanD, noBox, noBoxs, hat, Dd.d, at0, at1, in_kd, hgs, h5, hidx, hpm, hpi, vc]
        · refine go (some (0, .int (PP t m - PP t i - t[i]))) (by rw [hfar, decide_eq_false c2, Bool.and_false]) ?_
          have hc : (decide (-10 ≤ PP t m - PP t i - t[i]) && decide (PP t m - PP t i - t[i] ≤ 10)) = true := by
            unfold absI at c2
            split at c2
            · rw [decide_eq_true (by omega), decide_eq_true (p := _ ≤ (10 : Int)) (by omega)]; rfl
            · rw [decide_eq_true (by omega), decide_eq_true (p := _ ≤ (10 : Int)) (by omega)]; rfl
          have vc : ∀ ρ : Pv.Env, val (pBv 4) ρ = some (0, .int (PP t m - PP t i - t[i])) → val (pChain (gCmpI fun i j => decide (i ≤ j)) (gCmpI fun i j => decide (i ≤ j)) (pOp1 gNeg (pC (.int 10))) (pBv 4) (pC (.int 10))) ρ = some (0, .bl true) := fun ρ hv => by
            rw [v_chain (u := (0, .int (-10))) (v := (0, .int (PP t m - PP t i - t[i]))) (z := (0, .int 10)) (b1 := decide (-10 ≤ PP t m - PP t i - t[i])) (b2 := decide (PP t m - PP t i - t[i] ≤ 10)) (by rw [v_op1, v_c]; rfl) hv rfl rfl rfl, hc]
          unfold bodyT
          simp [i_zp, zip_s, zipQ_s, i_en, en_s, enQ_s, r_put, put_s, r_kg2, kg2_s, i_lc, lcI_s, r_seq, r_seq_nx, r_seq_rt, r_seq_bk, r_seq_ct, r_nil, r_if, r_if_t, r_if_f, r_asg, r_asg_v, r_arg, r_c, r_var, r_var_0, r_var_s, r_bv, r_bv_s, v_c, v_bv, v_var, v_var_0, g1_s, g2_s, r_op1, r_op2, v_op1, v_op2, va_nil, va_cons, consR_s, gN_s, on1_s, r_call, v_call, fn_s, r_fn, v_fn, ow_nil, ow_cons, ownC_s, disp_s, r_tup, r_ktup, r_lst, v_tup, v_ktup, v_lst, t_vl, bl_s, t_nt, not_s, t_an, t_or, and_t, and_f, or_t, or_f, t_tr, tru_s, r_ife, ife_t, ife_f, r_app, app_s, r_aug, aug_s, r_ret, ret_v, ret_r, retB_s, r_par, a_nl, a_cn, cR_s, par_2, r_for, for_s, i_sq, seq_s, i_rg, rng_s, r_frz, frz_s, fin_rt, fin_nx, l_nil, bind_nm, bindR_s, step_nx, step_rt, initE, List.replicate, isBox, gLen, gInt, gMulI, gMod, gFdiv, gAdd, gSub, gCmpI, ix_l, ix_t, ix_k, ix_s, ix_z, gIsN, isNon, sq_l, sq_t, sq_k, cleanD, noBox, noBoxs, hat, Dd.d, at0, at1, in_kd, hgs, h5, hidx, hpm, hpi, vc]
      · have h5 : ¬ t[i] < 5 := by
          rcases ho with ho | ho
          · exact absurd ho c1
          · rw [ho]; cases b <;> simp [lg]
        refine go y (by rw [hfar, decide_eq_false c1, Bool.false_and]) ?_
        unfold bodyT
        simp [i_zp, zip_s, zipQ_s, i_en, en_s, enQ_s, r_put, put_s, r_kg2, kg2_s, i_lc, lcI_s, r_seq, r_seq_nx, r_seq_rt, r_seq_bk, r_seq_ct, r_nil, r_if, r_if_t, r_if_f, r_asg, r_asg_v, r_arg, r_c, r_var, r_var_0, r_var_s, r_bv, r_bv_s, v_c, v_bv, v_var, v_var_0, g1_s, g2_s, r_op1, r_op2, v_op1, v_op2, va_nil, va_cons, consR_s, gN_s, on1_s, r_call, v_call, fn_s, r_fn, v_fn, ow_nil, ow_cons, ownC_s, disp_s, r_tup, r_ktup, r_lst, v_tup, v_ktup, v_lst, t_vl, bl_s, t_nt, not_s, t_an, t_or, and_t, and_f, or_t, or_f, t_tr, tru_s, r_ife, ife_t, ife_f, r_app, app_s, r_aug, aug_s, r_ret, ret_v, ret_r, retB_s, r_par, a_nl, a_cn, cR_s, par_2, r_for, for_s, i_sq, seq_s, i_rg, rng_s, r_frz, frz_s, fin_rt, fin_nx, l_nil, bind_nm, bindR_s, step_nx, step_rt, initE, List.replicate, isBox, gLen, gInt, gMulI, gMod, gFdiv, gAdd, gSub, gCmpI, ix_l, ix_t, ix_k, ix_s, ix_z, gIsN, isNon, sq_l, sq_t, sq_k, cleanD, noBox, noBoxs, hat, Dd.d, at0, at1, in_kd, hgs, h5]
theorem fits {s : D} {bb : Bool} {t : List Int} {ds : List Dd} (ok : Ok2 ds) (hs : seqD s = some (bb, t.map D.int)) (ht : Ch ds t) : ∃ b : Bool, (b = true ↔ ∀ k, farAt ds t k = false) ∧ m_law_fits [.ktp (ds.map Dd.d), s] = some (0, .bl b) := by
  rw [show m_law_fits [.ktp (ds.map Dd.d), s] = finR (b_law_fits (initE 5 [.ktp (ds.map Dd.d), s])) from r_m rfl]
  have h10 := ok.ln
  have hp := law_places s bb t hs (by rw [ht.ln]; omega)
  have hr : -1000000000 ≤ (ds.length : Int) ∧ (ds.length : Int) ≤ 1000000000 := by omega
  rcases fit_loop ok hs ht ds.length 0 none none (by omega) with ⟨x', y', q1, q2⟩ | ⟨k, ρ', q1, q2⟩
  · refine ⟨true, ⟨fun _ k => ?_, fun _ => rfl⟩, ?_⟩
    · by_cases hk : k < ds.length
      · exact q1 k (by omega) hk
      · unfold farAt
        rw [List.getElem?_eq_none (by omega)]
    · unfold b_law_fits
      unfold bodyT at q2
      have q2' : loopF (.nm 3) _ (rngD 0 ds.length) _ = _ := q2
      simp [i_zp, zip_s, zipQ_s, i_en, en_s, enQ_s, r_put, put_s, r_kg2, kg2_s, i_lc, lcI_s, r_seq, r_seq_nx, r_seq_rt, r_seq_bk, r_seq_ct, r_nil, r_if, r_if_t, r_if_f, r_asg, r_asg_v, r_arg, r_c, r_var, r_var_0, r_var_s, r_bv, r_bv_s, v_c, v_bv, v_var, v_var_0, g1_s, g2_s, r_op1, r_op2, v_op1, v_op2, va_nil, va_cons, consR_s, gN_s, on1_s, r_call, v_call, fn_s, r_fn, v_fn, ow_nil, ow_cons, ownC_s, disp_s, r_tup, r_ktup, r_lst, v_tup, v_ktup, v_lst, t_vl, bl_s, t_nt, not_s, t_an, t_or, and_t, and_f, or_t, or_f, t_tr, tru_s, r_ife, ife_t, ife_f, r_app, app_s, r_aug, aug_s, r_ret, ret_v, ret_r, retB_s, r_par, a_nl, a_cn, cR_s, par_2, r_for, for_s, i_sq, seq_s, i_rg, rng_s, r_frz, frz_s, fin_rt, fin_nx, l_nil, bind_nm, bindR_s, step_nx, step_rt, initE, List.replicate, isBox, gLen, gInt, gMulI, gMod, gFdiv, gAdd, gSub, gCmpI, ix_l, ix_t, ix_k, ix_s, ix_z, gIsN, isNon, sq_l, sq_t, sq_k, cleanD, noBox, noBoxs, hp, hr, q2']
  · refine ⟨false, ⟨(fun h => by cases h), (fun h => by rw [h k] at q1; cases q1)⟩, ?_⟩
    unfold b_law_fits
    unfold bodyT at q2
    have q2' : loopF (.nm 3) _ (rngD 0 ds.length) _ = _ := q2
    simp [i_zp, zip_s, zipQ_s, i_en, en_s, enQ_s, r_put, put_s, r_kg2, kg2_s, i_lc, lcI_s, r_seq, r_seq_nx, r_seq_rt, r_seq_bk, r_seq_ct, r_nil, r_if, r_if_t, r_if_f, r_asg, r_asg_v, r_arg, r_c, r_var, r_var_0, r_var_s, r_bv, r_bv_s, v_c, v_bv, v_var, v_var_0, g1_s, g2_s, r_op1, r_op2, v_op1, v_op2, va_nil, va_cons, consR_s, gN_s, on1_s, r_call, v_call, fn_s, r_fn, v_fn, ow_nil, ow_cons, ownC_s, disp_s, r_tup, r_ktup, r_lst, v_tup, v_ktup, v_lst, t_vl, bl_s, t_nt, not_s, t_an, t_or, and_t, and_f, or_t, or_f, t_tr, tru_s, r_ife, ife_t, ife_f, r_app, app_s, r_aug, aug_s, r_ret, ret_v, ret_r, retB_s, r_par, a_nl, a_cn, cR_s, par_2, r_for, for_s, i_sq, seq_s, i_rg, rng_s, r_frz, frz_s, fin_rt, fin_nx, l_nil, bind_nm, bindR_s, step_nx, step_rt, initE, List.replicate, isBox, gLen, gInt, gMulI, gMod, gFdiv, gAdd, gSub, gCmpI, ix_l, ix_t, ix_k, ix_s, ix_z, gIsN, isNon, sq_l, sq_t, sq_k, cleanD, noBox, noBoxs, hp, hr, q2']
end K40
set_option linter.all false
set_option maxRecDepth 100000
namespace K40
open PySem Pv
def tupI (t : List Int) : D := .tup (t.map D.int)
theorem ch_nil : Ch [] [] := ⟨rfl, fun k d s h => by simp at h⟩
theorem ch_snoc {pre : List Dd} {d : Dd} {t : List Int} : Ch (pre ++ [d]) t ↔ ∃ r s, Ch pre r ∧ s ∈ opts d ∧ t = r ++ [s] := by
  constructor
  · intro h
    have hl := h.ln
    rw [List.length_append, List.length_singleton] at hl
    have hne : t ≠ [] := fun z => by rw [z] at hl; simp at hl
    refine ⟨t.dropLast, t.getLast hne, ⟨by rw [List.length_dropLast]; omega, fun k d' s hd hs => ?_⟩, ?_, (List.dropLast_concat_getLast hne).symm⟩
    · have hk : k < pre.length := (List.getElem?_eq_some_iff.mp hd).1
      refine h.op k d' s (by rw [List.getElem?_append_left hk]; exact hd) ?_
      rw [List.getElem?_dropLast] at hs
      split at hs
      · exact hs
      · cases hs
    · refine h.op pre.length d _ (by simp) ?_
      rw [List.getLast_eq_getElem, List.getElem?_eq_getElem (by omega)]
      congr 1
      congr 1
      omega
  · rintro ⟨r, s, h1, h2, rfl⟩
    have hl := h1.ln
    refine ⟨by simp [hl], fun k d' s' hd hs => ?_⟩
    by_cases hk : k < pre.length
    · rw [List.getElem?_append_left hk] at hd
      rw [List.getElem?_append_left (by omega)] at hs
      exact h1.op k d' s' hd hs
    · by_cases e : k = pre.length
      · subst e
        rw [List.getElem?_append_right (by omega)] at hd hs
        simp at hd
        rw [hl] at hs
        simp at hs
        subst hd hs
        exact h2
      · rw [List.getElem?_eq_none (by simp; omega)] at hd
        cases hd
theorem r_ext {i k : Nat} {A : Fe} {ρ : Pv.Env} {ds cs : List D} (h1 : ρ[i]?.join = some (1, .lst ds)) (h2 : A ρ = some (.v k (.lst cs))) (h3 : ds.length + cs.length ≤ 1000000) : sExt i A ρ = some (.nx, ρ.set i (some (1, .lst (ds ++ cs)))) := by
  have e : sExt i A ρ = ((A ρ).bind fun a => match a with
    | .v _ (.lst cs) => if ds.length + cs.length ≤ big then some (.nx, ρ.set i (some (1, .lst (ds ++ cs)))) else none
    | _ => none) := by
    unfold sExt
    rw [h1]
    rfl
  rw [e, h2]
  dsimp only [Option.bind_some]
  exact if_pos h3
def bodyX : Fs := sExt 4 (pLc 0 (iLc (pBv 3)) (.nm 6) [6] bYes (pOp2 gAdd (pBv 5) (pTup (aCons (pVar 6) aNil))))
theorem ext_loop (z rw0 dd : W) (os : List Int) (ho : os.length ≤ 2) : ∀ (rows : List (List Int)) (acc : List (List Int)) (x : Option W), (∀ r ∈ rows, r.length ≤ 1000) → acc.length + 2 * rows.length ≤ 100000 →
    ∃ x', loopF (.nm 5) bodyX (rows.map tupI) [some z, some rw0, some dd, some (1, .lst (os.map D.int)), some (1, .lst (acc.map tupI)), x, none] = some (.nx, [some z, some rw0, some dd, some (1, .lst (os.map D.int)), some (1, .lst ((acc ++ rows.flatMap fun r => os.map fun s => r ++ [s]).map tupI)), x', none])
  | [], acc, x, _, _ => ⟨x, by simp [l_nil]⟩
  | r :: rows, acc, x, hr, ha => by
    obtain ⟨x', q⟩ := ext_loop z rw0 dd os ho rows (acc ++ os.map fun s => r ++ [s]) (some (0, tupI r)) (fun r' h => hr r' (List.mem_cons_of_mem _ h)) (by simp at ha ⊢; omega)
    refine ⟨x', ?_⟩
    rw [List.map_cons, l_cons, bind_nm, if_pos (by simp), bindR_s]
    have hrl := hr r List.mem_cons_self
    have hlc : pLc 0 (iLc (pBv 3)) (.nm 6) [6] bYes (pOp2 gAdd (pBv 5) (pTup (aCons (pVar 6) aNil))) [some z, some rw0, some dd, some (1, .lst (os.map D.int)), some (1, .lst (acc.map tupI)), some (0, tupI r), none] = some (.v 1 (.lst ((os.map fun s => r ++ [s]).map tupI))) := by
      refine r_lc (ds := os.map D.int) (by rfl) (by simp [i_zp, zip_s, zipQ_s, i_en, en_s, enQ_s, r_put, put_s, r_kg2, kg2_s, i_lc, lcI_s, r_seq, r_seq_nx, r_seq_rt, r_seq_bk, r_seq_ct, r_nil, r_if, r_if_t, r_if_f, r_asg, r_asg_v, r_arg, r_c, r_var, r_var_0, r_var_s, r_bv, r_bv_s, v_c, v_bv, v_var, v_var_0, g1_s, g2_s, r_op1, r_op2, v_op1, v_op2, va_nil, va_cons, consR_s, gN_s, on1_s, r_call, v_call, fn_s, r_fn, v_fn, ow_nil, ow_cons, ownC_s, disp_s, r_tup, r_ktup, r_lst, v_tup, v_ktup, v_lst, t_vl, bl_s, t_nt, not_s, t_an, t_or, and_t, and_f, or_t, or_f, t_tr, tru_s, r_ife, ife_t, ife_f, r_app, app_s, r_aug, aug_s, r_ret, ret_v, ret_r, retB_s, r_par, a_nl, a_cn, cR_s, par_2, r_for, for_s, i_sq, seq_s, i_rg, rng_s, r_frz, frz_s, fin_rt, fin_nx, l_nil, bind_nm, bindR_s, step_nx, step_rt, initE, List.replicate, isBox, gLen, gInt, gMulI, gMod, gFdiv, gAdd, gSub, gCmpI, ix_l, ix_t, ix_k, ix_s, ix_z, gIsN, isNon, sq_l, sq_t, sq_k, cleanD, noBox, noBoxs]) (by simp [Pv.big]; omega) ?_
      rw [show (os.map fun s => r ++ [s]).map tupI = (os.filter fun _ => true).map (fun s => tupI (r ++ [s])) by rw [List.filter_eq_self.mpr (fun _ _ => rfl), List.map_map]; rfl]
      refine compL_em fun s _ => ⟨[some z, some rw0, some dd, some (1, .lst (os.map D.int)), some (1, .lst (acc.map tupI)), some (0, tupI r), some (0, .int s)], by simp [bindT, wipeE], rfl, fun _ => ⟨0, ?_⟩⟩
      have : r.length + 1 ≤ 1000000 := by omega
      simp [i_zp, zip_s, zipQ_s, i_en, en_s, enQ_s, r_put, put_s, r_kg2, kg2_s, i_lc, lcI_s, r_seq, r_seq_nx, r_seq_rt, r_seq_bk, r_seq_ct, r_nil, r_if, r_if_t, r_if_f, r_asg, r_asg_v, r_arg, r_c, r_var, r_var_0, r_var_s, r_bv, r_bv_s, v_c, v_bv, v_var, v_var_0, g1_s, g2_s, r_op1, r_op2, v_op1, v_op2, va_nil, va_cons, consR_s, gN_s, on1_s, r_call, v_call, fn_s, r_fn, v_fn, ow_nil, ow_cons, ownC_s, disp_s, r_tup, r_ktup, r_lst, v_tup, v_ktup, v_lst, t_vl, bl_s, t_nt, not_s, t_an, t_or, and_t, and_f, or_t, or_f, t_tr, tru_s, r_ife, ife_t, ife_f, r_app, app_s, r_aug, aug_s, r_ret, ret_v, ret_r, retB_s, r_par, a_nl, a_cn, cR_s, par_2, r_for, for_s, i_sq, seq_s, i_rg, rng_s, r_frz, frz_s, fin_rt, fin_nx, l_nil, bind_nm, bindR_s, step_nx, step_rt, initE, List.replicate, isBox, gLen, gInt, gMulI, gMod, gFdiv, gAdd, gSub, gCmpI, ix_l, ix_t, ix_k, ix_s, ix_z, gIsN, isNon, sq_l, sq_t, sq_k, cleanD, noBox, noBoxs, tupI, Pv.big, this]
    show stepL _ _ _ (bodyX [some z, some rw0, some dd, some (1, .lst (os.map D.int)), some (1, .lst (acc.map tupI)), some (0, tupI r), none]) = _
    have e : bodyX [some z, some rw0, some dd, some (1, .lst (os.map D.int)), some (1, .lst (acc.map tupI)), some (0, tupI r), none] = some (.nx, [some z, some rw0, some dd, some (1, .lst (os.map D.int)), some (1, .lst ((acc ++ os.map fun s => r ++ [s]).map tupI)), some (0, tupI r), none]) := by
      unfold bodyX
      rw [r_ext rfl hlc (by simp at ha ⊢; omega)]
      simp
    rw [e, step_nx]
    simpa [List.flatMap_cons] using q
def bodyC : Fs := bSeq (sAsg 3 (pLst (aCons (pC (.int 0)) aNil))) (bSeq (sIf (bVal (pOp2 gEq (pOp2 gIx (pBv 2) (pC (.int 0))) (pC (.str "do")))) (sAsg 3 (pLst (aCons (pOp2 gIx (pBv 2) (pC (.int 1))) aNil))) bNil) (bSeq (sIf (bVal (pOp2 (gIn false) (pOp2 gIx (pBv 2) (pC (.int 0))) (pTup (aCons (pC (.str "go")) (aCons (pC (.str "if")) aNil))))) (sAsg 3 (pLst (aCons (pOp2 gAdd (pC (.int 2)) (pCall (on1 gInt) (aCons (pOp2 gEq (pOp2 gIx (pBv 2) (pC (.int 0))) (pC (.str "if"))) aNil))) (aCons (pOp2 gAdd (pC (.int 5)) (pCall (on1 gInt) (aCons (pOp2 gEq (pOp2 gIx (pBv 2) (pC (.int 0))) (pC (.str "if"))) aNil))) aNil)))) bNil) (bSeq (sAsg 4 (pLst aNil)) (bFrz 1 (bSeq (sFor (iSeq (pVar 1)) (.nm 5) bodyX) (sMv 4 1))))))
theorem kd_if (b : Bool) : decide (kd b = "if") = b := by cases b <;> decide +kernel
theorem r_mv {i j : Nat} {ρ : Pv.Env} {w : W} (h : ρ[i]?.join = some w) (hj : j < ρ.length) : sMv i j ρ = some (.nx, (ρ.set i none).set j (some w)) := by
  unfold sMv
  rw [h]
  dsimp only [Option.bind_some]
  rw [if_pos hj]
theorem tail_c (z dd : W) (os : List Int) (ho : os.length ≤ 2) (rows : List (List Int)) (g x : Option W) (hr : ∀ r ∈ rows, r.length ≤ 1000) (hl : rows.length ≤ 2000) :
    ∃ x', (bSeq (sAsg 4 (pLst aNil)) (bFrz 1 (bSeq (sFor (iSeq (pVar 1)) (.nm 5) bodyX) (sMv 4 1)))) [some z, some (1, .lst (rows.map tupI)), some dd, some (1, .lst (os.map D.int)), g, x, none] = some (.nx, [some z, some (1, .lst ((rows.flatMap fun r => os.map fun s => r ++ [s]).map tupI)), some dd, some (1, .lst (os.map D.int)), none, x', none]) := by
  obtain ⟨x', q⟩ := ext_loop z (0, .lst (rows.map tupI)) dd os ho rows [] x hr (by simp; omega)
  refine ⟨x', ?_⟩
  simp only [List.map_nil, List.nil_append] at q
  have hm := r_mv (i := 4) (j := 1) (ρ := [some z, some (0, .lst (rows.map tupI)), some dd, some (1, .lst (os.map D.int)), some (1, .lst ((rows.flatMap fun r => os.map fun s => r ++ [s]).map tupI)), x', none]) rfl (by simp)
  simp only [r_seq, r_asg, r_lst, ow_nil, disp_s]
  simp [i_zp, zip_s, zipQ_s, i_en, en_s, enQ_s, r_put, put_s, r_kg2, kg2_s, i_lc, lcI_s, r_seq, r_seq_nx, r_seq_rt, r_seq_bk, r_seq_ct, r_nil, r_if, r_if_t, r_if_f, r_asg, r_asg_v, r_arg, r_c, r_var, r_var_0, r_var_s, r_bv, r_bv_s, v_c, v_bv, v_var, v_var_0, g1_s, g2_s, r_op1, r_op2, v_op1, v_op2, va_nil, va_cons, consR_s, gN_s, on1_s, r_call, v_call, fn_s, r_fn, v_fn, ow_nil, ow_cons, ownC_s, disp_s, r_tup, r_ktup, r_lst, v_tup, v_ktup, v_lst, t_vl, bl_s, t_nt, not_s, t_an, t_or, and_t, and_f, or_t, or_f, t_tr, tru_s, r_ife, ife_t, ife_f, r_app, app_s, r_aug, aug_s, r_ret, ret_v, ret_r, retB_s, r_par, a_nl, a_cn, cR_s, par_2, r_for, for_s, i_sq, seq_s, i_rg, rng_s, r_frz, frz_s, fin_rt, fin_nx, l_nil, bind_nm, bindR_s, step_nx, step_rt, initE, List.replicate, isBox, gLen, gInt, gMulI, gMod, gFdiv, gAdd, gSub, gCmpI, ix_l, ix_t, ix_k, ix_s, ix_z, gIsN, isNon, sq_l, sq_t, sq_k, cleanD, noBox, noBoxs, q, hm]
theorem c_loop (z : W) : ∀ (ds pre : List Dd) (rows : List (List Int)) (a b x : Option W), (∀ t, t ∈ rows ↔ Ch pre t) → rows.length ≤ 2 ^ pre.length → pre.length + ds.length ≤ 10 →
    ∃ (rows' : List (List Int)) (a' b' x' : Option W), (∀ t, t ∈ rows' ↔ Ch (pre ++ ds) t) ∧ rows'.length ≤ 2000 ∧ loopF (.nm 2) bodyC (ds.map Dd.d) [some z, some (1, .lst (rows.map tupI)), a, b, none, x, none] = some (.nx, [some z, some (1, .lst (rows'.map tupI)), a', b', none, x', none])
  | [], pre, rows, a, b, x, h1, h2, h3 => ⟨rows, a, b, x, by simpa using h1, by
      have : 2 ^ pre.length ≤ 2 ^ 10 := Nat.pow_le_pow_right (by decide) (by simpa using h3)
      have : (2 : Nat) ^ 10 = 1024 := by decide
      omega, rfl⟩
  | d :: ds, pre, rows, a, b, x, h1, h2, h3 => by
    have h3' : pre.length < 10 := by simp at h3; omega
    have hp : 2 ^ pre.length ≤ 2 ^ 9 := Nat.pow_le_pow_right (by decide) (by omega)
    have hp9 : (2 : Nat) ^ 9 = 512 := by decide
    have hr : ∀ r ∈ rows, r.length ≤ 1000 := fun r h => by rw [((h1 r).mp h).ln]; omega
    have ho : (opts d).length ≤ 2 := by cases d <;> simp [opts]
    obtain ⟨x1, q1⟩ := tail_c z (0, d.d) (opts d) ho rows none x hr (by omega)
    have hmem : ∀ t, t ∈ (rows.flatMap fun r => (opts d).map fun s => r ++ [s]) ↔ Ch (pre ++ [d]) t := fun t => by
      rw [ch_snoc]
      simp only [List.mem_flatMap, List.mem_map]
      constructor
      · rintro ⟨r, hr, s, hs, rfl⟩
        exact ⟨r, s, (h1 r).mp hr, hs, rfl⟩
      · rintro ⟨r, s, hr, hs, rfl⟩
        exact ⟨r, (h1 r).mpr hr, s, hs, rfl⟩
    have hlen : (rows.flatMap fun r => (opts d).map fun s => r ++ [s]).length ≤ 2 ^ (pre ++ [d]).length := by
      have : ∀ l : List (List Int), (l.flatMap fun r => (opts d).map fun s => r ++ [s]).length ≤ 2 * l.length := fun l => by
        induction l with
        | nil => simp
        | cons r l ih =>
          rw [List.flatMap_cons, List.length_append, List.length_map, List.length_cons]
          omega
      have h4 := this rows
      rw [List.length_append, List.length_singleton, Nat.pow_succ]
      omega
    obtain ⟨rows', a', b', x', p1, p2, p3⟩ := c_loop z ds (pre ++ [d]) (rows.flatMap fun r => (opts d).map fun s => r ++ [s]) (some (0, d.d)) (some (1, .lst ((opts d).map D.int))) x1 hmem hlen (by simp at h3 ⊢; omega)
    refine ⟨rows', a', b', x', by simpa using p1, p2, ?_⟩
    rw [List.map_cons, l_cons, bind_nm, if_pos (by simp), bindR_s]
    show stepL _ _ _ (bodyC [some z, some (1, .lst (rows.map tupI)), some (0, d.d), b, none, x, none]) = _
    have e : bodyC [some z, some (1, .lst (rows.map tupI)), some (0, d.d), b, none, x, none] = some (.nx, [some z, some (1, .lst ((rows.flatMap fun r => (opts d).map fun s => r ++ [s]).map tupI)), some (0, d.d), some (1, .lst ((opts d).map D.int)), none, x1, none]) := by
      unfold bodyC
      cases d with
      | dd n =>
        rw [← q1]
        simp [r_seq, r_if, t_vl, i_zp, zip_s, zipQ_s, i_en, en_s, enQ_s, r_put, put_s, r_kg2, kg2_s, i_lc, lcI_s, r_seq, r_seq_nx, r_seq_rt, r_seq_bk, r_seq_ct, r_nil, r_if, r_if_t, r_if_f, r_asg, r_asg_v, r_arg, r_c, r_var, r_var_0, r_var_s, r_bv, r_bv_s, v_c, v_bv, v_var, v_var_0, g1_s, g2_s, r_op1, r_op2, v_op1, v_op2, va_nil, va_cons, consR_s, gN_s, on1_s, r_call, v_call, fn_s, r_fn, v_fn, ow_nil, ow_cons, ownC_s, disp_s, r_tup, r_ktup, r_lst, v_tup, v_ktup, v_lst, t_vl, bl_s, t_nt, not_s, t_an, t_or, and_t, and_f, or_t, or_f, t_tr, tru_s, r_ife, ife_t, ife_f, r_app, app_s, r_aug, aug_s, r_ret, ret_v, ret_r, retB_s, r_par, a_nl, a_cn, cR_s, par_2, r_for, for_s, i_sq, seq_s, i_rg, rng_s, r_frz, frz_s, fin_rt, fin_nx, l_nil, bind_nm, bindR_s, step_nx, step_rt, initE, List.replicate, isBox, gLen, gInt, gMulI, gMod, gFdiv, gAdd, gSub, gCmpI, ix_l, ix_t, ix_k, ix_s, ix_z, gIsN, isNon, sq_l, sq_t, sq_k, cleanD, noBox, noBoxs, Dd.d, at0, at1, gEq_str, in_do, opts]
      | mk c =>
        rw [← q1]
        simp [r_seq, r_if, t_vl, i_zp, zip_s, zipQ_s, i_en, en_s, enQ_s, r_put, put_s, r_kg2, kg2_s, i_lc, lcI_s, r_seq, r_seq_nx, r_seq_rt, r_seq_bk, r_seq_ct, r_nil, r_if, r_if_t, r_if_f, r_asg, r_asg_v, r_arg, r_c, r_var, r_var_0, r_var_s, r_bv, r_bv_s, v_c, v_bv, v_var, v_var_0, g1_s, g2_s, r_op1, r_op2, v_op1, v_op2, va_nil, va_cons, consR_s, gN_s, on1_s, r_call, v_call, fn_s, r_fn, v_fn, ow_nil, ow_cons, ownC_s, disp_s, r_tup, r_ktup, r_lst, v_tup, v_ktup, v_lst, t_vl, bl_s, t_nt, not_s, t_an, t_or, and_t, and_f, or_t, or_f, t_tr, tru_s, r_ife, ife_t, ife_f, r_app, app_s, r_aug, aug_s, r_ret, ret_v, ret_r, retB_s, r_par, a_nl, a_cn, cR_s, par_2, r_for, for_s, i_sq, seq_s, i_rg, rng_s, r_frz, frz_s, fin_rt, fin_nx, l_nil, bind_nm, bindR_s, step_nx, step_rt, initE, List.replicate, isBox, gLen, gInt, gMulI, gMod, gFdiv, gAdd, gSub, gCmpI, ix_l, ix_t, ix_k, ix_s, ix_z, gIsN, isNon, sq_l, sq_t, sq_k, cleanD, noBox, noBoxs, Dd.d, at0, at1, gEq_str, mark_do, in_mark, opts]
      | jp b c =>
        have := kd_if b
        rw [← q1]
        cases b
        · simp [r_seq, r_if, t_vl, i_zp, zip_s, zipQ_s, i_en, en_s, enQ_s, r_put, put_s, r_kg2, kg2_s, i_lc, lcI_s, r_seq, r_seq_nx, r_seq_rt, r_seq_bk, r_seq_ct, r_nil, r_if, r_if_t, r_if_f, r_asg, r_asg_v, r_arg, r_c, r_var, r_var_0, r_var_s, r_bv, r_bv_s, v_c, v_bv, v_var, v_var_0, g1_s, g2_s, r_op1, r_op2, v_op1, v_op2, va_nil, va_cons, consR_s, gN_s, on1_s, r_call, v_call, fn_s, r_fn, v_fn, ow_nil, ow_cons, ownC_s, disp_s, r_tup, r_ktup, r_lst, v_tup, v_ktup, v_lst, t_vl, bl_s, t_nt, not_s, t_an, t_or, and_t, and_f, or_t, or_f, t_tr, tru_s, r_ife, ife_t, ife_f, r_app, app_s, r_aug, aug_s, r_ret, ret_v, ret_r, retB_s, r_par, a_nl, a_cn, cR_s, par_2, r_for, for_s, i_sq, seq_s, i_rg, rng_s, r_frz, frz_s, fin_rt, fin_nx, l_nil, bind_nm, bindR_s, step_nx, step_rt, initE, List.replicate, isBox, gLen, gInt, gMulI, gMod, gFdiv, gAdd, gSub, gCmpI, ix_l, ix_t, ix_k, ix_s, ix_z, gIsN, isNon, sq_l, sq_t, sq_k, cleanD, noBox, noBoxs, Dd.d, at0, at1, gEq_str, kd_do, in_kd, opts, this, sh, lg]
        · simp [r_seq, r_if, t_vl, i_zp, zip_s, zipQ_s, i_en, en_s, enQ_s, r_put, put_s, r_kg2, kg2_s, i_lc, lcI_s, r_seq, r_seq_nx, r_seq_rt, r_seq_bk, r_seq_ct, r_nil, r_if, r_if_t, r_if_f, r_asg, r_asg_v, r_arg, r_c, r_var, r_var_0, r_var_s, r_bv, r_bv_s, v_c, v_bv, v_var, v_var_0, g1_s, g2_s, r_op1, r_op2, v_op1, v_op2, va_nil, va_cons, consR_s, gN_s, on1_s, r_call, v_call, fn_s, r_fn, v_fn, ow_nil, ow_cons, ownC_s, disp_s, r_tup, r_ktup, r_lst, v_tup, v_ktup, v_lst, t_vl, bl_s, t_nt, not_s, t_an, t_or, and_t, and_f, or_t, or_f, t_tr, tru_s, r_ife, ife_t, ife_f, r_app, app_s, r_aug, aug_s, r_ret, ret_v, ret_r, retB_s, r_par, a_nl, a_cn, cR_s, par_2, r_for, for_s, i_sq, seq_s, i_rg, rng_s, r_frz, frz_s, fin_rt, fin_nx, l_nil, bind_nm, bindR_s, step_nx, step_rt, initE, List.replicate, isBox, gLen, gInt, gMulI, gMod, gFdiv, gAdd, gSub, gCmpI, ix_l, ix_t, ix_k, ix_s, ix_z, gIsN, isNon, sq_l, sq_t, sq_k, cleanD, noBox, noBoxs, Dd.d, at0, at1, gEq_str, kd_do, in_kd, opts, this, sh, lg]
    rw [e, step_nx]
    exact p3
theorem clean_rows : ∀ rows : List (List Int), (rows.map tupI).all (cleanD 0) = true
  | [] => rfl
  | r :: rows => by
    rw [List.map_cons, List.all_cons, clean_rows rows, Bool.and_true]
    show noBox (tupI r) = true
    exact clean_ints r
theorem choices {ds : List Dd} (ok : Ok2 ds) : ∃ rows : List (List Int), (∀ t, t ∈ rows ↔ Ch ds t) ∧ rows.length ≤ 2000 ∧ m_law_choices [.ktp (ds.map Dd.d)] = some (1, .lst (rows.map tupI)) := by
  rw [show m_law_choices [.ktp (ds.map Dd.d)] = finR (b_law_choices (initE 7 [.ktp (ds.map Dd.d)])) from r_m rfl]
  obtain ⟨rows, a', b', x', p1, p2, p3⟩ := c_loop (0, .ktp (ds.map Dd.d)) ds [] [[]] none none none (fun t => by
    constructor
    · intro h; rw [List.mem_singleton.mp h]; exact ch_nil
    · intro h
      have := h.ln
      rw [List.eq_nil_of_length_eq_zero this]; exact List.mem_singleton.mpr rfl) (by decide) (by have := ok.ln; simp; omega)
  refine ⟨rows, by simpa using p1, p2, ?_⟩
  have hc := clean_rows rows
  have e0 : ([[]] : List (List Int)).map tupI = [.tup []] := rfl
  rw [e0] at p3
  unfold bodyC bodyX at p3
  unfold b_law_choices
  rw [List.all_eq_true] at hc
  simp only [i_zp, zip_s, zipQ_s, i_en, en_s, enQ_s, r_put, put_s, r_kg2, kg2_s, i_lc, lcI_s, r_seq, r_seq_nx, r_seq_rt, r_seq_bk, r_seq_ct, r_nil, r_if, r_if_t, r_if_f, r_asg, r_asg_v, r_arg, r_c, r_var, r_var_0, r_var_s, r_bv, r_bv_s, v_c, v_bv, v_var, v_var_0, g1_s, g2_s, r_op1, r_op2, v_op1, v_op2, va_nil, va_cons, consR_s, gN_s, on1_s, r_call, v_call, fn_s, r_fn, v_fn, ow_nil, ow_cons, ownC_s, disp_s, r_tup, r_ktup, r_lst, v_tup, v_ktup, v_lst, t_vl, bl_s, t_nt, not_s, t_an, t_or, and_t, and_f, or_t, or_f, t_tr, tru_s, r_ife, ife_t, ife_f, r_app, app_s, r_aug, aug_s, r_ret, ret_v, ret_r, retB_s, r_par, a_nl, a_cn, cR_s, par_2, r_for, for_s, i_sq, seq_s, i_rg, rng_s, r_frz, frz_s, fin_rt, fin_nx, l_nil, bind_nm, bindR_s, step_nx, step_rt, initE, List.replicate, isBox, gLen, gInt, gMulI, gMod, gFdiv, gAdd, gSub, gCmpI, ix_l, ix_t, ix_k, ix_s, ix_z, gIsN, isNon, sq_l, sq_t, sq_k, cleanD, noBox, noBoxs, p3]
  simp [i_zp, zip_s, zipQ_s, i_en, en_s, enQ_s, r_put, put_s, r_kg2, kg2_s, i_lc, lcI_s, r_seq, r_seq_nx, r_seq_rt, r_seq_bk, r_seq_ct, r_nil, r_if, r_if_t, r_if_f, r_asg, r_asg_v, r_arg, r_c, r_var, r_var_0, r_var_s, r_bv, r_bv_s, v_c, v_bv, v_var, v_var_0, g1_s, g2_s, r_op1, r_op2, v_op1, v_op2, va_nil, va_cons, consR_s, gN_s, on1_s, r_call, v_call, fn_s, r_fn, v_fn, ow_nil, ow_cons, ownC_s, disp_s, r_tup, r_ktup, r_lst, v_tup, v_ktup, v_lst, t_vl, bl_s, t_nt, not_s, t_an, t_or, and_t, and_f, or_t, or_f, t_tr, tru_s, r_ife, ife_t, ife_f, r_app, app_s, r_aug, aug_s, r_ret, ret_v, ret_r, retB_s, r_par, a_nl, a_cn, cR_s, par_2, r_for, for_s, i_sq, seq_s, i_rg, rng_s, r_frz, frz_s, fin_rt, fin_nx, l_nil, bind_nm, bindR_s, step_nx, step_rt, initE, List.replicate, isBox, gLen, gInt, gMulI, gMod, gFdiv, gAdd, gSub, gCmpI, ix_l, ix_t, ix_k, ix_s, ix_z, gIsN, isNon, sq_l, sq_t, sq_k, cleanD, noBox, noBoxs, p3]
  intro x hx
  exact hc (tupI x) (List.mem_map.mpr ⟨x, hx, rfl⟩)
end K40
set_option linter.all false
set_option maxRecDepth 100000
namespace K40
open PySem Pv
def fitB (ds : List Dd) (t : List Int) : Bool := (List.range ds.length).all fun k => !farAt ds t k
theorem fitB_iff {ds : List Dd} {t : List Int} : fitB ds t = true ↔ ∀ k, farAt ds t k = false := by
  unfold fitB
  rw [List.all_eq_true]
  constructor
  · intro h k
    by_cases hk : k < ds.length
    · have := h k (List.mem_range.mpr hk)
      simpa using this
    · unfold farAt
      rw [List.getElem?_eq_none (by omega)]
  · intro h k _
    rw [h k]; rfl
theorem fits' {s : D} {bb : Bool} {t : List Int} {ds : List Dd} (ok : Ok2 ds) (hs : seqD s = some (bb, t.map D.int)) (ht : Ch ds t) : m_law_fits [.ktp (ds.map Dd.d), s] = some (0, .bl (fitB ds t)) := by
  obtain ⟨b, h1, h2⟩ := fits ok hs ht
  have : b = fitB ds t := by
    cases h : fitB ds t with
    | true => exact h1.mpr (fitB_iff.mp h)
    | false =>
      cases b with
      | false => rfl
      | true =>
        have := fitB_iff.mpr (h1.mp rfl)
        rw [this] at h; cases h
  rw [h2, this]
theorem intsD_map : ∀ l : List Int, intsD (l.map D.int) = some l
  | [] => rfl
  | a :: l => by
    show (intsD (l.map D.int)).map _ = _
    rw [intsD_map l]; rfl
theorem minI_eq {l : List Int} {a : Int} {m : Int} (hm : m ∈ a :: l) (hle : ∀ y ∈ a :: l, m ≤ y) : minI a l = m := by
  obtain ⟨q1, q2, q3⟩ := minI_spec a l
  apply Int.le_antisymm
  · rcases List.mem_cons.mp hm with h | h
    · rw [h]; exact q2
    · exact q3 m h
  · rcases q1 with h | h
    · rw [h]; exact hle a List.mem_cons_self
    · exact hle _ (List.mem_cons_of_mem _ h)
theorem rng_map (n : Nat) : rngD 0 n = (List.range n).map fun i : Nat => D.int (i : Int) := by
  unfold rngD
  refine List.map_congr_left fun i _ => ?_
  simp
theorem law_least {ds : List Dd} (ok : Ok2 ds) {t : List Int} (I : Inv ds t) (hf : ∀ k, farAt ds t k = false) : m_law_least [.ktp (ds.map Dd.d)] = some (0, tupI t) := by
  rw [show m_law_least [.ktp (ds.map Dd.d)] = finR (b_law_least (initE 4 [.ktp (ds.map Dd.d)])) from r_m rfl]
  obtain ⟨rows, h1, h2, h3⟩ := choices ok
  have h10 := ok.ln
  have hg : pLc 0 (iSeq (pFn m_law_choices [] (aCons (pBv 0) aNil))) (.nm 2) [2] (bVal (pFn m_law_fits [] (aCons (pBv 0) (aCons (pBv 2) aNil)))) (pVar 2) [some (0, .ktp (ds.map Dd.d)), none, none, none] = some (.v 1 (.lst ((rows.filter (fitB ds)).map tupI))) := by
    refine r_lc (ds := rows.map tupI) (by rfl) (by simp [i_zp, zip_s, zipQ_s, i_en, en_s, enQ_s, r_put, put_s, r_kg2, kg2_s, i_lc, lcI_s, r_seq, r_seq_nx, r_seq_rt, r_seq_bk, r_seq_ct, r_nil, r_if, r_if_t, r_if_f, r_asg, r_asg_v, r_arg, r_c, r_var, r_var_0, r_var_s, r_bv, r_bv_s, v_c, v_bv, v_var, v_var_0, g1_s, g2_s, r_op1, r_op2, v_op1, v_op2, va_nil, va_cons, consR_s, gN_s, on1_s, r_call, v_call, fn_s, r_fn, v_fn, ow_nil, ow_cons, ownC_s, disp_s, r_tup, r_ktup, r_lst, v_tup, v_ktup, v_lst, t_vl, bl_s, t_nt, not_s, t_an, t_or, and_t, and_f, or_t, or_f, t_tr, tru_s, r_ife, ife_t, ife_f, r_app, app_s, r_aug, aug_s, r_ret, ret_v, ret_r, retB_s, r_par, a_nl, a_cn, cR_s, par_2, r_for, for_s, i_sq, seq_s, i_rg, rng_s, r_frz, frz_s, fin_rt, fin_nx, l_nil, bind_nm, bindR_s, step_nx, step_rt, initE, List.replicate, isBox, gLen, gInt, gMulI, gMod, gFdiv, gAdd, gSub, gCmpI, ix_l, ix_t, ix_k, ix_s, ix_z, gIsN, isNon, sq_l, sq_t, sq_k, cleanD, noBox, noBoxs, h3]) (by simp [Pv.big]; omega) (compL_em fun t' ht' => ⟨[some (0, .ktp (ds.map Dd.d)), none, some (0, tupI t'), none], by simp [bindT, wipeE], ?_, fun _ => ⟨0, ?_⟩⟩)
    · have := fits' (s := tupI t') (bb := false) ok rfl ((h1 t').mp ht')
      simp [i_zp, zip_s, zipQ_s, i_en, en_s, enQ_s, r_put, put_s, r_kg2, kg2_s, i_lc, lcI_s, r_seq, r_seq_nx, r_seq_rt, r_seq_bk, r_seq_ct, r_nil, r_if, r_if_t, r_if_f, r_asg, r_asg_v, r_arg, r_c, r_var, r_var_0, r_var_s, r_bv, r_bv_s, v_c, v_bv, v_var, v_var_0, g1_s, g2_s, r_op1, r_op2, v_op1, v_op2, va_nil, va_cons, consR_s, gN_s, on1_s, r_call, v_call, fn_s, r_fn, v_fn, ow_nil, ow_cons, ownC_s, disp_s, r_tup, r_ktup, r_lst, v_tup, v_ktup, v_lst, t_vl, bl_s, t_nt, not_s, t_an, t_or, and_t, and_f, or_t, or_f, t_tr, tru_s, r_ife, ife_t, ife_f, r_app, app_s, r_aug, aug_s, r_ret, ret_v, ret_r, retB_s, r_par, a_nl, a_cn, cR_s, par_2, r_for, for_s, i_sq, seq_s, i_rg, rng_s, r_frz, frz_s, fin_rt, fin_nx, l_nil, bind_nm, bindR_s, step_nx, step_rt, initE, List.replicate, isBox, gLen, gInt, gMulI, gMod, gFdiv, gAdd, gSub, gCmpI, ix_l, ix_t, ix_k, ix_s, ix_z, gIsN, isNon, sq_l, sq_t, sq_k, cleanD, noBox, noBoxs, this]
    · simp [i_zp, zip_s, zipQ_s, i_en, en_s, enQ_s, r_put, put_s, r_kg2, kg2_s, i_lc, lcI_s, r_seq, r_seq_nx, r_seq_rt, r_seq_bk, r_seq_ct, r_nil, r_if, r_if_t, r_if_f, r_asg, r_asg_v, r_arg, r_c, r_var, r_var_0, r_var_s, r_bv, r_bv_s, v_c, v_bv, v_var, v_var_0, g1_s, g2_s, r_op1, r_op2, v_op1, v_op2, va_nil, va_cons, consR_s, gN_s, on1_s, r_call, v_call, fn_s, r_fn, v_fn, ow_nil, ow_cons, ownC_s, disp_s, r_tup, r_ktup, r_lst, v_tup, v_ktup, v_lst, t_vl, bl_s, t_nt, not_s, t_an, t_or, and_t, and_f, or_t, or_f, t_tr, tru_s, r_ife, ife_t, ife_f, r_app, app_s, r_aug, aug_s, r_ret, ret_v, ret_r, retB_s, r_par, a_nl, a_cn, cR_s, par_2, r_for, for_s, i_sq, seq_s, i_rg, rng_s, r_frz, frz_s, fin_rt, fin_nx, l_nil, bind_nm, bindR_s, step_nx, step_rt, initE, List.replicate, isBox, gLen, gInt, gMulI, gMod, gFdiv, gAdd, gSub, gCmpI, ix_l, ix_t, ix_k, ix_s, ix_z, gIsN, isNon, sq_l, sq_t, sq_k, cleanD, noBox, noBoxs]
  have hgood : t ∈ rows.filter (fitB ds) := List.mem_filter.mpr ⟨(h1 t).mpr I.ch, fitB_iff.mpr hf⟩
  have hlo : ∀ t' ∈ rows.filter (fitB ds), Ch ds t' ∧ Le t t' := fun t' h => by
    obtain ⟨q1, q2⟩ := List.mem_filter.mp h
    have c := (h1 t').mp q1
    exact ⟨c, I.lo t' c (fitB_iff.mp q2)⟩
  have hgl : (rows.filter (fitB ds)).length ≤ 2000 := Nat.le_trans (List.length_filter_le _ _) h2
  generalize rows.filter (fitB ds) = good at hg hgood hlo hgl
  have hln := I.ch.ln
  have hout : (List.range ds.length).map (fun i => D.int (t.getD i 0)) = t.map D.int := by
    apply List.ext_getElem
    · simp [hln]
    · intro i a1 a2
      simp at a1
      simp [List.getElem?_eq_getElem (show i < t.length by omega)]
  have hr : -1000000000 ≤ (ds.length : Int) ∧ (ds.length : Int) ≤ 1000000000 := by omega
  have hc : pLc 0 (iRange1 (pCall (on1 gLen) (aCons (pBv 0) aNil))) (.nm 3) [3] bYes (pCall (on1 gMin) (aCons (pLc 0 (iLc (pBv 1)) (.nm 2) [2] bYes (pOp2 gIx (pBv 2) (pBv 3))) aNil)) [some (0, .ktp (ds.map Dd.d)), some (1, .lst (good.map tupI)), none, none] = some (.v 1 (.lst (t.map D.int))) := by
    refine r_lc (ds := (List.range ds.length).map fun i : Nat => D.int (i : Int)) (by rfl) (by simp [i_zp, zip_s, zipQ_s, i_en, en_s, enQ_s, r_put, put_s, r_kg2, kg2_s, i_lc, lcI_s, r_seq, r_seq_nx, r_seq_rt, r_seq_bk, r_seq_ct, r_nil, r_if, r_if_t, r_if_f, r_asg, r_asg_v, r_arg, r_c, r_var, r_var_0, r_var_s, r_bv, r_bv_s, v_c, v_bv, v_var, v_var_0, g1_s, g2_s, r_op1, r_op2, v_op1, v_op2, va_nil, va_cons, consR_s, gN_s, on1_s, r_call, v_call, fn_s, r_fn, v_fn, ow_nil, ow_cons, ownC_s, disp_s, r_tup, r_ktup, r_lst, v_tup, v_ktup, v_lst, t_vl, bl_s, t_nt, not_s, t_an, t_or, and_t, and_f, or_t, or_f, t_tr, tru_s, r_ife, ife_t, ife_f, r_app, app_s, r_aug, aug_s, r_ret, ret_v, ret_r, retB_s, r_par, a_nl, a_cn, cR_s, par_2, r_for, for_s, i_sq, seq_s, i_rg, rng_s, r_frz, frz_s, fin_rt, fin_nx, l_nil, bind_nm, bindR_s, step_nx, step_rt, initE, List.replicate, isBox, gLen, gInt, gMulI, gMod, gFdiv, gAdd, gSub, gCmpI, ix_l, ix_t, ix_k, ix_s, ix_z, gIsN, isNon, sq_l, sq_t, sq_k, cleanD, noBox, noBoxs, hr, rng_map]) (by simp [Pv.big]; omega) ?_
    rw [← hout, show (List.range ds.length).map (fun i => D.int (t.getD i 0)) = ((List.range ds.length).filter fun _ => true).map (fun i => D.int (t.getD i 0)) by rw [List.filter_eq_self.mpr (fun _ _ => rfl)]]
    refine compL_em fun (i : Nat) hi => ⟨[some (0, .ktp (ds.map Dd.d)), some (1, .lst (good.map tupI)), none, some (0, .int (i : Int))], by simp [bindT, wipeE], rfl, fun _ => ⟨0, ?_⟩⟩
    have hi' : i < ds.length := List.mem_range.mp hi
    have hin : val (pLc 0 (iLc (pBv 1)) (.nm 2) [2] bYes (pOp2 gIx (pBv 2) (pBv 3))) [some (0, .ktp (ds.map Dd.d)), some (1, .lst (good.map tupI)), none, some (0, .int (i : Int))] = some (1, .lst ((good.map fun t' => t'.getD i 0).map D.int)) := by
      refine v_lc (ds := good.map tupI) (by rfl) (by simp [i_zp, zip_s, zipQ_s, i_en, en_s, enQ_s, r_put, put_s, r_kg2, kg2_s, i_lc, lcI_s, r_seq, r_seq_nx, r_seq_rt, r_seq_bk, r_seq_ct, r_nil, r_if, r_if_t, r_if_f, r_asg, r_asg_v, r_arg, r_c, r_var, r_var_0, r_var_s, r_bv, r_bv_s, v_c, v_bv, v_var, v_var_0, g1_s, g2_s, r_op1, r_op2, v_op1, v_op2, va_nil, va_cons, consR_s, gN_s, on1_s, r_call, v_call, fn_s, r_fn, v_fn, ow_nil, ow_cons, ownC_s, disp_s, r_tup, r_ktup, r_lst, v_tup, v_ktup, v_lst, t_vl, bl_s, t_nt, not_s, t_an, t_or, and_t, and_f, or_t, or_f, t_tr, tru_s, r_ife, ife_t, ife_f, r_app, app_s, r_aug, aug_s, r_ret, ret_v, ret_r, retB_s, r_par, a_nl, a_cn, cR_s, par_2, r_for, for_s, i_sq, seq_s, i_rg, rng_s, r_frz, frz_s, fin_rt, fin_nx, l_nil, bind_nm, bindR_s, step_nx, step_rt, initE, List.replicate, isBox, gLen, gInt, gMulI, gMod, gFdiv, gAdd, gSub, gCmpI, ix_l, ix_t, ix_k, ix_s, ix_z, gIsN, isNon, sq_l, sq_t, sq_k, cleanD, noBox, noBoxs]) (by simp [Pv.big]; omega) ?_
      rw [show (good.map fun t' => t'.getD i 0).map D.int = (good.filter fun _ => true).map (fun t' => D.int (t'.getD i 0)) by rw [List.filter_eq_self.mpr (fun _ _ => rfl), List.map_map]; rfl]
      refine compL_em fun t' ht' => ⟨[some (0, .ktp (ds.map Dd.d)), some (1, .lst (good.map tupI)), some (0, tupI t'), some (0, .int (i : Int))], by simp [bindT, wipeE], rfl, fun _ => ⟨0, ?_⟩⟩
      have hl' : i < t'.length := by rw [(hlo t' ht').1.ln]; exact hi'
      have hat := atI_int t' i hl'
      simp [i_zp, zip_s, zipQ_s, i_en, en_s, enQ_s, r_put, put_s, r_kg2, kg2_s, i_lc, lcI_s, r_seq, r_seq_nx, r_seq_rt, r_seq_bk, r_seq_ct, r_nil, r_if, r_if_t, r_if_f, r_asg, r_asg_v, r_arg, r_c, r_var, r_var_0, r_var_s, r_bv, r_bv_s, v_c, v_bv, v_var, v_var_0, g1_s, g2_s, r_op1, r_op2, v_op1, v_op2, va_nil, va_cons, consR_s, gN_s, on1_s, r_call, v_call, fn_s, r_fn, v_fn, ow_nil, ow_cons, ownC_s, disp_s, r_tup, r_ktup, r_lst, v_tup, v_ktup, v_lst, t_vl, bl_s, t_nt, not_s, t_an, t_or, and_t, and_f, or_t, or_f, t_tr, tru_s, r_ife, ife_t, ife_f, r_app, app_s, r_aug, aug_s, r_ret, ret_v, ret_r, retB_s, r_par, a_nl, a_cn, cR_s, par_2, r_for, for_s, i_sq, seq_s, i_rg, rng_s, r_frz, frz_s, fin_rt, fin_nx, l_nil, bind_nm, bindR_s, step_nx, step_rt, initE, List.replicate, isBox, gLen, gInt, gMulI, gMod, gFdiv, gAdd, gSub, gCmpI, ix_l, ix_t, ix_k, ix_s, ix_z, gIsN, isNon, sq_l, sq_t, sq_k, cleanD, noBox, noBoxs, tupI, hat, List.getElem?_eq_getElem hl']
    have hmin : gMin (1, .lst ((good.map fun t' => t'.getD i 0).map D.int)) = some (0, .int (t.getD i 0)) := by
      show ((intsD ((good.map fun t' => t'.getD i 0).map D.int)).bind fun ns => match ns with | [] => none | n :: r => some (0, D.int (minI n r))) = some (0, D.int (t.getD i 0))
      rw [intsD_map]
      dsimp only [Option.bind_some]
      have hm : t.getD i 0 ∈ good.map fun t' => t'.getD i 0 := List.mem_map.mpr ⟨t, hgood, rfl⟩
      have hle : ∀ y ∈ good.map (fun t' => t'.getD i 0), t.getD i 0 ≤ y := fun y hy => by
        obtain ⟨t', ht', rfl⟩ := List.mem_map.mp hy
        have hl1 : i < t.length := by omega
        have hl' : i < t'.length := by rw [(hlo t' ht').1.ln]; exact hi'
        have := (hlo t' ht').2 i _ _ (List.getElem?_eq_getElem hl1) (List.getElem?_eq_getElem hl')
        simpa [List.getElem?_eq_getElem hl1, List.getElem?_eq_getElem hl'] using this
      cases hgm : good.map (fun t' => t'.getD i 0) with
      | nil => rw [hgm] at hm; cases hm
      | cons a l =>
        rw [hgm] at hm hle
        dsimp only
        rw [minI_eq hm hle]
    rw [r_call, va_cons, hin, va_nil, consR_s, gN_s, on1_s, hmin]
    rfl
  have hcl := clean_ints t
  unfold b_law_least
  rw [show (initE 4 [.ktp (ds.map Dd.d)]) = [some (0, .ktp (ds.map Dd.d)), none, none, none] from rfl]
  rw [r_seq, r_asg, hg, r_asg_v, if_pos (by simp), r_seq_nx, r_ret, r_call, va_cons]
  have hv : val (pLc 0 (iRange1 (pCall (on1 gLen) (aCons (pBv 0) aNil))) (.nm 3) [3] bYes (pCall (on1 gMin) (aCons (pLc 0 (iLc (pBv 1)) (.nm 2) [2] bYes (pOp2 gIx (pBv 2) (pBv 3))) aNil))) ([some (0, .ktp (ds.map Dd.d)), none, none, none].set 1 (some (1, .lst (good.map tupI)))) = some (1, .lst (t.map D.int)) := by
    unfold val
    show (pLc _ _ _ _ _ _ [some (0, .ktp (ds.map Dd.d)), some (1, .lst (good.map tupI)), none, none]).bind _ = _
    rw [hc]; rfl
  rw [hv]
  simp [i_zp, zip_s, zipQ_s, i_en, en_s, enQ_s, r_put, put_s, r_kg2, kg2_s, i_lc, lcI_s, r_seq, r_seq_nx, r_seq_rt, r_seq_bk, r_seq_ct, r_nil, r_if, r_if_t, r_if_f, r_asg, r_asg_v, r_arg, r_c, r_var, r_var_0, r_var_s, r_bv, r_bv_s, v_c, v_bv, v_var, v_var_0, g1_s, g2_s, r_op1, r_op2, v_op1, v_op2, va_nil, va_cons, consR_s, gN_s, on1_s, r_call, v_call, fn_s, r_fn, v_fn, ow_nil, ow_cons, ownC_s, disp_s, r_tup, r_ktup, r_lst, v_tup, v_ktup, v_lst, t_vl, bl_s, t_nt, not_s, t_an, t_or, and_t, and_f, or_t, or_f, t_tr, tru_s, r_ife, ife_t, ife_f, r_app, app_s, r_aug, aug_s, r_ret, ret_v, ret_r, retB_s, r_par, a_nl, a_cn, cR_s, par_2, r_for, for_s, i_sq, seq_s, i_rg, rng_s, r_frz, frz_s, fin_rt, fin_nx, l_nil, bind_nm, bindR_s, step_nx, step_rt, initE, List.replicate, isBox, gLen, gInt, gMulI, gMod, gFdiv, gAdd, gSub, gCmpI, ix_l, ix_t, ix_k, ix_s, ix_z, gIsN, isNon, sq_l, sq_t, sq_k, cleanD, noBox, noBoxs, gTupOf, tupI, hcl]
/-! like -/
def likeOk : Nat → D → Bool
  | _, .int _ => true
  | _, .str _ => true
  | n + 1, .tup ds => decide (ds.length ≤ 1000) && ds.all (likeOk n)
  | _, _ => false
theorem r_and {A B : Fe} {ρ : Pv.Env} {b : Bool} (h : val A ρ = some (0, .bl b)) : pAnd A B ρ = if b = true then B ρ else some (.v 0 (.bl false)) := by
  unfold pAnd
  rw [t_vl, h, bl_s]
  rfl
theorem is_int_int (i : Int) : m_law_is_int [.int i] = some (0, .bl true) := by rfl
theorem blsD_true {α : Type} : ∀ l : List α, blsD (l.map fun _ => D.bl true) = some (l.map fun _ => true)
  | [] => rfl
  | a :: l => by
    show (blsD (l.map fun _ => D.bl true)).map _ = _
    rw [blsD_true l]; rfl
theorem is1 (b : Nat) (i : Int) : gIsi .bl (b, .int i) = some (0, .bl false) := by rfl
theorem is2 (b : Nat) (i : Int) : gIsi .tup (b, .int i) = some (0, .bl false) := by rfl
theorem is3 (b : Nat) (i : Int) : gIsi .str (b, .int i) = some (0, .bl false) := by rfl
theorem is1s (b : Nat) (i : Str) : gIsi .bl (b, .str i) = some (0, .bl false) := by rfl
theorem is2s (b : Nat) (i : Str) : gIsi .tup (b, .str i) = some (0, .bl false) := by rfl
theorem is3s (b : Nat) (i : Str) : gIsi .str (b, .str i) = some (0, .bl true) := by rfl
theorem is2t (b : Nat) (i : List D) : gIsi .tup (b, .tup i) = some (0, .bl true) := by rfl
theorem is1t (b : Nat) (i : List D) : gIsi .bl (b, .tup i) = some (0, .bl false) := rfl
theorem pIsi_eq (c : Ty) (A : Fe) : pIsi c A = pOp1 (gIsi c) A := rfl
theorem like_refl : ∀ (n : Nat) (x : D), likeOk n x = true → r_law_like (n + 1) [x, x] = some (0, .bl true)
  | n, .int i, _ => by
    rw [show r_law_like (n + 1) [.int i, .int i] = finR (b_law_like (r_law_like n) (initE 3 [.int i, .int i])) from r_m rfl]
    unfold b_law_like
    have ha : ∀ (ρ : Pv.Env), ρ[0]?.join = some (0, D.int i) → ρ[1]?.join = some (0, D.int i) → pAnd (pFn m_law_is_int [] (aCons (pBv 0) aNil)) (pOp2 gEq (pBv 0) (pBv 1)) ρ = some (.v 0 (.bl true)) := fun ρ h0 h1 => by
      rw [r_and (b := true) (by simp [i_zp, zip_s, zipQ_s, i_en, en_s, enQ_s, r_put, put_s, r_kg2, kg2_s, i_lc, lcI_s, r_seq, r_seq_nx, r_seq_rt, r_seq_bk, r_seq_ct, r_nil, r_if, r_if_t, r_if_f, r_asg, r_asg_v, r_arg, r_c, r_var, r_var_0, r_var_s, r_bv, r_bv_s, v_c, v_bv, v_var, v_var_0, g1_s, g2_s, r_op1, r_op2, v_op1, v_op2, va_nil, va_cons, consR_s, gN_s, on1_s, r_call, v_call, fn_s, r_fn, v_fn, ow_nil, ow_cons, ownC_s, disp_s, r_tup, r_ktup, r_lst, v_tup, v_ktup, v_lst, t_vl, bl_s, t_nt, not_s, t_an, t_or, and_t, and_f, or_t, or_f, t_tr, tru_s, r_ife, ife_t, ife_f, r_app, app_s, r_aug, aug_s, r_ret, ret_v, ret_r, retB_s, r_par, a_nl, a_cn, cR_s, par_2, r_for, for_s, i_sq, seq_s, i_rg, rng_s, r_frz, frz_s, fin_rt, fin_nx, l_nil, bind_nm, bindR_s, step_nx, step_rt, initE, List.replicate, isBox, gLen, gInt, gMulI, gMod, gFdiv, gAdd, gSub, gCmpI, ix_l, ix_t, ix_k, ix_s, ix_z, gIsN, isNon, sq_l, sq_t, sq_k, cleanD, noBox, noBoxs, h0, is_int_int])]
      simp [i_zp, zip_s, zipQ_s, i_en, en_s, enQ_s, r_put, put_s, r_kg2, kg2_s, i_lc, lcI_s, r_seq, r_seq_nx, r_seq_rt, r_seq_bk, r_seq_ct, r_nil, r_if, r_if_t, r_if_f, r_asg, r_asg_v, r_arg, r_c, r_var, r_var_0, r_var_s, r_bv, r_bv_s, v_c, v_bv, v_var, v_var_0, g1_s, g2_s, r_op1, r_op2, v_op1, v_op2, va_nil, va_cons, consR_s, gN_s, on1_s, r_call, v_call, fn_s, r_fn, v_fn, ow_nil, ow_cons, ownC_s, disp_s, r_tup, r_ktup, r_lst, v_tup, v_ktup, v_lst, t_vl, bl_s, t_nt, not_s, t_an, t_or, and_t, and_f, or_t, or_f, t_tr, tru_s, r_ife, ife_t, ife_f, r_app, app_s, r_aug, aug_s, r_ret, ret_v, ret_r, retB_s, r_par, a_nl, a_cn, cR_s, par_2, r_for, for_s, i_sq, seq_s, i_rg, rng_s, r_frz, frz_s, fin_rt, fin_nx, l_nil, bind_nm, bindR_s, step_nx, step_rt, initE, List.replicate, isBox, gLen, gInt, gMulI, gMod, gFdiv, gAdd, gSub, gCmpI, ix_l, ix_t, ix_k, ix_s, ix_z, gIsN, isNon, sq_l, sq_t, sq_k, cleanD, noBox, noBoxs, h0, h1, gEq_int]
    simp [i_zp, zip_s, zipQ_s, i_en, en_s, enQ_s, r_put, put_s, r_kg2, kg2_s, i_lc, lcI_s, r_seq, r_seq_nx, r_seq_rt, r_seq_bk, r_seq_ct, r_nil, r_if, r_if_t, r_if_f, r_asg, r_asg_v, r_arg, r_c, r_var, r_var_0, r_var_s, r_bv, r_bv_s, v_c, v_bv, v_var, v_var_0, g1_s, g2_s, r_op1, r_op2, v_op1, v_op2, va_nil, va_cons, consR_s, gN_s, on1_s, r_call, v_call, fn_s, r_fn, v_fn, ow_nil, ow_cons, ownC_s, disp_s, r_tup, r_ktup, r_lst, v_tup, v_ktup, v_lst, t_vl, bl_s, t_nt, not_s, t_an, t_or, and_t, and_f, or_t, or_f, t_tr, tru_s, r_ife, ife_t, ife_f, r_app, app_s, r_aug, aug_s, r_ret, ret_v, ret_r, retB_s, r_par, a_nl, a_cn, cR_s, par_2, r_for, for_s, i_sq, seq_s, i_rg, rng_s, r_frz, frz_s, fin_rt, fin_nx, l_nil, bind_nm, bindR_s, step_nx, step_rt, initE, List.replicate, isBox, gLen, gInt, gMulI, gMod, gFdiv, gAdd, gSub, gCmpI, ix_l, ix_t, ix_k, ix_s, ix_z, gIsN, isNon, sq_l, sq_t, sq_k, cleanD, noBox, noBoxs, pIsi_eq, is1, is2, is3, is1s, is2s, is3s, is2t, is1t, ha]
  | n, .str i, _ => by
    rw [show r_law_like (n + 1) [.str i, .str i] = finR (b_law_like (r_law_like n) (initE 3 [.str i, .str i])) from r_m rfl]
    unfold b_law_like
    have ha : ∀ (ρ : Pv.Env), ρ[0]?.join = some (0, D.str i) → ρ[1]?.join = some (0, D.str i) → pAnd (pIsi .str (pBv 0)) (pOp2 gEq (pBv 0) (pBv 1)) ρ = some (.v 0 (.bl true)) := fun ρ h0 h1 => by
      rw [r_and (b := true) (by simp [i_zp, zip_s, zipQ_s, i_en, en_s, enQ_s, r_put, put_s, r_kg2, kg2_s, i_lc, lcI_s, r_seq, r_seq_nx, r_seq_rt, r_seq_bk, r_seq_ct, r_nil, r_if, r_if_t, r_if_f, r_asg, r_asg_v, r_arg, r_c, r_var, r_var_0, r_var_s, r_bv, r_bv_s, v_c, v_bv, v_var, v_var_0, g1_s, g2_s, r_op1, r_op2, v_op1, v_op2, va_nil, va_cons, consR_s, gN_s, on1_s, r_call, v_call, fn_s, r_fn, v_fn, ow_nil, ow_cons, ownC_s, disp_s, r_tup, r_ktup, r_lst, v_tup, v_ktup, v_lst, t_vl, bl_s, t_nt, not_s, t_an, t_or, and_t, and_f, or_t, or_f, t_tr, tru_s, r_ife, ife_t, ife_f, r_app, app_s, r_aug, aug_s, r_ret, ret_v, ret_r, retB_s, r_par, a_nl, a_cn, cR_s, par_2, r_for, for_s, i_sq, seq_s, i_rg, rng_s, r_frz, frz_s, fin_rt, fin_nx, l_nil, bind_nm, bindR_s, step_nx, step_rt, initE, List.replicate, isBox, gLen, gInt, gMulI, gMod, gFdiv, gAdd, gSub, gCmpI, ix_l, ix_t, ix_k, ix_s, ix_z, gIsN, isNon, sq_l, sq_t, sq_k, cleanD, noBox, noBoxs, h0, pIsi_eq, is1, is2, is3, is1s, is2s, is3s, is2t, is1t])]
      simp [i_zp, zip_s, zipQ_s, i_en, en_s, enQ_s, r_put, put_s, r_kg2, kg2_s, i_lc, lcI_s, r_seq, r_seq_nx, r_seq_rt, r_seq_bk, r_seq_ct, r_nil, r_if, r_if_t, r_if_f, r_asg, r_asg_v, r_arg, r_c, r_var, r_var_0, r_var_s, r_bv, r_bv_s, v_c, v_bv, v_var, v_var_0, g1_s, g2_s, r_op1, r_op2, v_op1, v_op2, va_nil, va_cons, consR_s, gN_s, on1_s, r_call, v_call, fn_s, r_fn, v_fn, ow_nil, ow_cons, ownC_s, disp_s, r_tup, r_ktup, r_lst, v_tup, v_ktup, v_lst, t_vl, bl_s, t_nt, not_s, t_an, t_or, and_t, and_f, or_t, or_f, t_tr, tru_s, r_ife, ife_t, ife_f, r_app, app_s, r_aug, aug_s, r_ret, ret_v, ret_r, retB_s, r_par, a_nl, a_cn, cR_s, par_2, r_for, for_s, i_sq, seq_s, i_rg, rng_s, r_frz, frz_s, fin_rt, fin_nx, l_nil, bind_nm, bindR_s, step_nx, step_rt, initE, List.replicate, isBox, gLen, gInt, gMulI, gMod, gFdiv, gAdd, gSub, gCmpI, ix_l, ix_t, ix_k, ix_s, ix_z, gIsN, isNon, sq_l, sq_t, sq_k, cleanD, noBox, noBoxs, h0, h1, gEq_str]
    simp only [pIsi_eq] at ha ⊢
    simp [i_zp, zip_s, zipQ_s, i_en, en_s, enQ_s, r_put, put_s, r_kg2, kg2_s, i_lc, lcI_s, r_seq, r_seq_nx, r_seq_rt, r_seq_bk, r_seq_ct, r_nil, r_if, r_if_t, r_if_f, r_asg, r_asg_v, r_arg, r_c, r_var, r_var_0, r_var_s, r_bv, r_bv_s, v_c, v_bv, v_var, v_var_0, g1_s, g2_s, r_op1, r_op2, v_op1, v_op2, va_nil, va_cons, consR_s, gN_s, on1_s, r_call, v_call, fn_s, r_fn, v_fn, ow_nil, ow_cons, ownC_s, disp_s, r_tup, r_ktup, r_lst, v_tup, v_ktup, v_lst, t_vl, bl_s, t_nt, not_s, t_an, t_or, and_t, and_f, or_t, or_f, t_tr, tru_s, r_ife, ife_t, ife_f, r_app, app_s, r_aug, aug_s, r_ret, ret_v, ret_r, retB_s, r_par, a_nl, a_cn, cR_s, par_2, r_for, for_s, i_sq, seq_s, i_rg, rng_s, r_frz, frz_s, fin_rt, fin_nx, l_nil, bind_nm, bindR_s, step_nx, step_rt, initE, List.replicate, isBox, gLen, gInt, gMulI, gMod, gFdiv, gAdd, gSub, gCmpI, ix_l, ix_t, ix_k, ix_s, ix_z, gIsN, isNon, sq_l, sq_t, sq_k, cleanD, noBox, noBoxs, is1, is2, is3, is1s, is2s, is3s, is2t, is1t, ha]
  | 0, .tup ds, h => by cases h
  | n + 1, .tup ds, h => by
    have h' : (decide (ds.length ≤ 1000) && ds.all (likeOk n)) = true := h
    rw [Bool.and_eq_true] at h'
    have hl : ds.length ≤ 1000 := of_decide_eq_true h'.1
    rw [show r_law_like (n + 1 + 1) [.tup ds, .tup ds] = finR (b_law_like (r_law_like (n + 1)) (initE 3 [.tup ds, .tup ds])) from r_m rfl]
    unfold b_law_like
    have hr : -1000000000 ≤ (ds.length : Int) ∧ (ds.length : Int) ≤ 1000000000 := by omega
    have hlc : val (pLc 0 (iRange1 (pCall (on1 gLen) (aCons (pBv 1) aNil))) (.nm 2) [2] bYes (pFn (r_law_like (n + 1)) [] (aCons (pOp2 gIx (pBv 0) (pBv 2)) (aCons (pOp2 gIx (pBv 1) (pBv 2)) aNil)))) [some (0, .tup ds), some (0, .tup ds), none] = some (1, .lst ((List.range ds.length).map fun _ => D.bl true)) := by
      refine v_lc (ds := (List.range ds.length).map fun i : Nat => D.int (i : Int)) (by rfl) (by simp [i_zp, zip_s, zipQ_s, i_en, en_s, enQ_s, r_put, put_s, r_kg2, kg2_s, i_lc, lcI_s, r_seq, r_seq_nx, r_seq_rt, r_seq_bk, r_seq_ct, r_nil, r_if, r_if_t, r_if_f, r_asg, r_asg_v, r_arg, r_c, r_var, r_var_0, r_var_s, r_bv, r_bv_s, v_c, v_bv, v_var, v_var_0, g1_s, g2_s, r_op1, r_op2, v_op1, v_op2, va_nil, va_cons, consR_s, gN_s, on1_s, r_call, v_call, fn_s, r_fn, v_fn, ow_nil, ow_cons, ownC_s, disp_s, r_tup, r_ktup, r_lst, v_tup, v_ktup, v_lst, t_vl, bl_s, t_nt, not_s, t_an, t_or, and_t, and_f, or_t, or_f, t_tr, tru_s, r_ife, ife_t, ife_f, r_app, app_s, r_aug, aug_s, r_ret, ret_v, ret_r, retB_s, r_par, a_nl, a_cn, cR_s, par_2, r_for, for_s, i_sq, seq_s, i_rg, rng_s, r_frz, frz_s, fin_rt, fin_nx, l_nil, bind_nm, bindR_s, step_nx, step_rt, initE, List.replicate, isBox, gLen, gInt, gMulI, gMod, gFdiv, gAdd, gSub, gCmpI, ix_l, ix_t, ix_k, ix_s, ix_z, gIsN, isNon, sq_l, sq_t, sq_k, cleanD, noBox, noBoxs, hr, rng_map]) (by simp [Pv.big]; omega) ?_
      rw [show (List.range ds.length).map (fun _ => D.bl true) = ((List.range ds.length).filter fun _ => true).map (fun _ => D.bl true) by rw [List.filter_eq_self.mpr (fun _ _ => rfl)]]
      refine compL_em fun (i : Nat) hi => ⟨[some (0, .tup ds), some (0, .tup ds), some (0, .int (i : Int))], by simp [bindT, wipeE], rfl, fun _ => ⟨0, ?_⟩⟩
      have hi' : i < ds.length := List.mem_range.mp hi
      have hat := atI_some ds i hi'
      have ih := like_refl n ds[i] (List.all_eq_true.mp h'.2 _ (List.getElem_mem hi'))
      simp [i_zp, zip_s, zipQ_s, i_en, en_s, enQ_s, r_put, put_s, r_kg2, kg2_s, i_lc, lcI_s, r_seq, r_seq_nx, r_seq_rt, r_seq_bk, r_seq_ct, r_nil, r_if, r_if_t, r_if_f, r_asg, r_asg_v, r_arg, r_c, r_var, r_var_0, r_var_s, r_bv, r_bv_s, v_c, v_bv, v_var, v_var_0, g1_s, g2_s, r_op1, r_op2, v_op1, v_op2, va_nil, va_cons, consR_s, gN_s, on1_s, r_call, v_call, fn_s, r_fn, v_fn, ow_nil, ow_cons, ownC_s, disp_s, r_tup, r_ktup, r_lst, v_tup, v_ktup, v_lst, t_vl, bl_s, t_nt, not_s, t_an, t_or, and_t, and_f, or_t, or_f, t_tr, tru_s, r_ife, ife_t, ife_f, r_app, app_s, r_aug, aug_s, r_ret, ret_v, ret_r, retB_s, r_par, a_nl, a_cn, cR_s, par_2, r_for, for_s, i_sq, seq_s, i_rg, rng_s, r_frz, frz_s, fin_rt, fin_nx, l_nil, bind_nm, bindR_s, step_nx, step_rt, initE, List.replicate, isBox, gLen, gInt, gMulI, gMod, gFdiv, gAdd, gSub, gCmpI, ix_l, ix_t, ix_k, ix_s, ix_z, gIsN, isNon, sq_l, sq_t, sq_k, cleanD, noBox, noBoxs, hat, ih]
    have hne : gNe (0, .int (ds.length : Int)) (0, .int (ds.length : Int)) = some (0, .bl false) := by simp [gNe, eqOk, isBox, gEqD, gEqS]
    simp [i_zp, zip_s, zipQ_s, i_en, en_s, enQ_s, r_put, put_s, r_kg2, kg2_s, i_lc, lcI_s, r_seq, r_seq_nx, r_seq_rt, r_seq_bk, r_seq_ct, r_nil, r_if, r_if_t, r_if_f, r_asg, r_asg_v, r_arg, r_c, r_var, r_var_0, r_var_s, r_bv, r_bv_s, v_c, v_bv, v_var, v_var_0, g1_s, g2_s, r_op1, r_op2, v_op1, v_op2, va_nil, va_cons, consR_s, gN_s, on1_s, r_call, v_call, fn_s, r_fn, v_fn, ow_nil, ow_cons, ownC_s, disp_s, r_tup, r_ktup, r_lst, v_tup, v_ktup, v_lst, t_vl, bl_s, t_nt, not_s, t_an, t_or, and_t, and_f, or_t, or_f, t_tr, tru_s, r_ife, ife_t, ife_f, r_app, app_s, r_aug, aug_s, r_ret, ret_v, ret_r, retB_s, r_par, a_nl, a_cn, cR_s, par_2, r_for, for_s, i_sq, seq_s, i_rg, rng_s, r_frz, frz_s, fin_rt, fin_nx, l_nil, bind_nm, bindR_s, step_nx, step_rt, initE, List.replicate, isBox, gLen, gInt, gMulI, gMod, gFdiv, gAdd, gSub, gCmpI, ix_l, ix_t, ix_k, ix_s, ix_z, gIsN, isNon, sq_l, sq_t, sq_k, cleanD, noBox, noBoxs, pIsi_eq, is1, is2, is3, is1s, is2s, is3s, is2t, is1t, hne, hlc, gAll, listD, blsD_true]
  | _, .non, h => by cases ‹Nat› <;> cases h
  | _, .bl _, h => by cases ‹Nat› <;> cases h
  | _, .lst _, h => by cases ‹Nat› <;> cases h
  | _, .dct _ _, h => by cases ‹Nat› <;> cases h
  | _, .scr _, h => by cases ‹Nat› <;> cases h
  | _, .ktp _, h => by cases ‹Nat› <;> cases h
theorem like (x : D) (h : likeOk 5 x = true) : m_law_like [x, x] = some (0, .bl true) := like_refl 5 x h
theorem likeOk_ints (t : List Int) (h : t.length ≤ 1000) : likeOk 5 (tupI t) = true := by
  show (decide ((t.map D.int).length ≤ 1000) && (t.map D.int).all (likeOk 4)) = true
  rw [Bool.and_eq_true]
  refine ⟨decide_eq_true (by simpa using h), List.all_eq_true.mpr fun d hd => ?_⟩
  obtain ⟨i, _, rfl⟩ := List.mem_map.mp hd
  rfl
end K40
set_option linter.all false
set_option maxRecDepth 100000
namespace K40
open PySem Pv
theorem right {ds : List Dd} (ok : Ok2 ds) : m_law_right [.ktp (ds.map Dd.d)] = some (0, .bl true) := by
  obtain ⟨t, I, hf, hls⟩ := least_sizes (.ktp (ds.map Dd.d)) false ds ok rfl
  have hll := law_least ok I hf
  obtain ⟨rows, h1, h2, h3⟩ := choices ok
  have h10 := ok.ln
  have hlk : ∀ t' : List Int, Ch ds t' → m_law_like [tupI t', tupI t'] = some (0, .bl true) := fun t' h => like _ (likeOk_ints t' (by rw [h.ln]; omega))
  have hfit : m_law_fits [.ktp (ds.map Dd.d), tupI t] = some (0, .bl true) := by
    rw [fits' (bb := false) ok rfl I.ch, fitB_iff.mpr hf]
  have hls' : m_least_sizes [.ktp (ds.map Dd.d)] = some (0, tupI t) := hls
  have hmem : t ∈ rows := (h1 t).mpr I.ch
  have hpos : 0 < rows.length := List.length_pos_of_mem hmem
  have ha0 : L2.atI (rows.map tupI) 0 = some (tupI (rows[0]'hpos)) := by
    have := atI_some (rows.map tupI) 0 (by simpa using hpos)
    simpa using this
  have hal : L2.atI (rows.map tupI) ((rows.length : Int) - 1) = some (tupI (rows[rows.length - 1]'(by omega))) := by
    have := atI_some (rows.map tupI) (rows.length - 1) (by simp; omega)
    rw [show ((rows.length : Int) - 1) = ((rows.length - 1 : Nat) : Int) by omega]
    simpa using this
  have c0 : Ch ds (rows[0]'hpos) := (h1 _).mp (List.getElem_mem _)
  have cl : Ch ds (rows[rows.length - 1]'(by omega)) := (h1 _).mp (List.getElem_mem _)
  generalize rows[0]'hpos = r0 at ha0 c0
  generalize rows[rows.length - 1]'(by omega) = rl at hal cl
  have hloop : ∀ (l : List (List Int)) (x : Option W), (∀ t' ∈ l, Ch ds t') → ∃ x', loopF (.nm 3) (sIf (bNot (bVal (pFn m_law_like [] (aCons (pFn m_places_of [] (aCons (pBv 0) (aCons (pBv 3) aNil))) (aCons (pCall (on1 gTupOf) (aCons (pFn m_law_places [] (aCons (pBv 3) aNil)) aNil)) aNil))))) (sRet (pC (.bl false))) bNil) (l.map tupI) [some (0, .ktp (ds.map Dd.d)), some (0, tupI t), some (1, .lst (rows.map tupI)), x] = some (.nx, [some (0, .ktp (ds.map Dd.d)), some (0, tupI t), some (1, .lst (rows.map tupI)), x']) := by
    intro l
    induction l with
    | nil => exact fun x _ => ⟨x, by simp [l_nil]⟩
    | cons a l ih =>
      intro x h
      obtain ⟨x', hx⟩ := ih (some (0, tupI a)) (fun t' ht => h t' (List.mem_cons_of_mem _ ht))
      refine ⟨x', ?_⟩
      have hc := h a List.mem_cons_self
      have e1 := places_of (.ktp (ds.map Dd.d)) (tupI a) false false (ds.map Dd.d) a rfl rfl (by simp [hc.ln]) (by rw [hc.ln]; omega)
      have e2 := law_places (tupI a) false a rfl (by rw [hc.ln]; omega)
      have e3 : m_law_like [.tup ((placesFrom 0 a).map D.int), .tup ((placesFrom 0 a).map D.int)] = some (0, .bl true) := like _ (likeOk_ints _ (by rw [places_len, hc.ln]; omega))
      have e4 := clean_ints (placesFrom 0 a)
      rw [List.map_cons, l_cons]
      simp [i_zp, zip_s, zipQ_s, i_en, en_s, enQ_s, r_put, put_s, r_kg2, kg2_s, i_lc, lcI_s, r_seq, r_seq_nx, r_seq_rt, r_seq_bk, r_seq_ct, r_nil, r_if, r_if_t, r_if_f, r_asg, r_asg_v, r_arg, r_c, r_var, r_var_0, r_var_s, r_bv, r_bv_s, v_c, v_bv, v_var, v_var_0, g1_s, g2_s, r_op1, r_op2, v_op1, v_op2, va_nil, va_cons, consR_s, gN_s, on1_s, r_call, v_call, fn_s, r_fn, v_fn, ow_nil, ow_cons, ownC_s, disp_s, r_tup, r_ktup, r_lst, v_tup, v_ktup, v_lst, t_vl, bl_s, t_nt, not_s, t_an, t_or, and_t, and_f, or_t, or_f, t_tr, tru_s, r_ife, ife_t, ife_f, r_app, app_s, r_aug, aug_s, r_ret, ret_v, ret_r, retB_s, r_par, a_nl, a_cn, cR_s, par_2, r_for, for_s, i_sq, seq_s, i_rg, rng_s, r_frz, frz_s, fin_rt, fin_nx, l_nil, bind_nm, bindR_s, step_nx, step_rt, initE, List.replicate, isBox, gLen, gInt, gMulI, gMod, gFdiv, gAdd, gSub, gCmpI, ix_l, ix_t, ix_k, ix_s, ix_z, gIsN, isNon, sq_l, sq_t, sq_k, cleanD, noBox, noBoxs, e1, e2, e3, e4, gTupOf]
      exact hx
  have hlkt := hlk t I.ch
  obtain ⟨x', hx⟩ := hloop [t, rl, r0] none (by
    intro t' ht
    rcases List.mem_cons.mp ht with rfl | ht
    · exact I.ch
    rcases List.mem_cons.mp ht with rfl | ht
    · exact cl
    rcases List.mem_cons.mp ht with rfl | ht
    · exact c0
    · cases ht)
  simp only [List.map_cons, List.map_nil] at hx
  have hr : -1000000000 ≤ ((rows.length : Int)) - 1 ∧ (rows.length : Int) - 1 ≤ 1000000000 := by omega
  rw [show m_law_right [.ktp (ds.map Dd.d)] = finR (b_law_right (initE 4 [.ktp (ds.map Dd.d)])) from r_m rfl]
  unfold b_law_right
  simp [i_zp, zip_s, zipQ_s, i_en, en_s, enQ_s, r_put, put_s, r_kg2, kg2_s, i_lc, lcI_s, r_seq, r_seq_nx, r_seq_rt, r_seq_bk, r_seq_ct, r_nil, r_if, r_if_t, r_if_f, r_asg, r_asg_v, r_arg, r_c, r_var, r_var_0, r_var_s, r_bv, r_bv_s, v_c, v_bv, v_var, v_var_0, g1_s, g2_s, r_op1, r_op2, v_op1, v_op2, va_nil, va_cons, consR_s, gN_s, on1_s, r_call, v_call, fn_s, r_fn, v_fn, ow_nil, ow_cons, ownC_s, disp_s, r_tup, r_ktup, r_lst, v_tup, v_ktup, v_lst, t_vl, bl_s, t_nt, not_s, t_an, t_or, and_t, and_f, or_t, or_f, t_tr, tru_s, r_ife, ife_t, ife_f, r_app, app_s, r_aug, aug_s, r_ret, ret_v, ret_r, retB_s, r_par, a_nl, a_cn, cR_s, par_2, r_for, for_s, i_sq, seq_s, i_rg, rng_s, r_frz, frz_s, fin_rt, fin_nx, l_nil, bind_nm, bindR_s, step_nx, step_rt, initE, List.replicate, isBox, gLen, gInt, gMulI, gMod, gFdiv, gAdd, gSub, gCmpI, ix_l, ix_t, ix_k, ix_s, ix_z, gIsN, isNon, sq_l, sq_t, sq_k, cleanD, noBox, noBoxs, hll, h3, hfit, hls', hlkt, ha0, hal, hx]
end K40
set_option linter.all false
set_option maxRecDepth 100000
namespace K40
open PySem Pv
/-! edges -/
def chs : List Dd → List (List Int)
  | [] => [[]]
  | d :: ds => (opts d).flatMap fun s => (chs ds).map (s :: ·)
theorem ch_cons {d : Dd} {ds : List Dd} {s : Int} {t : List Int} : Ch (d :: ds) (s :: t) ↔ s ∈ opts d ∧ Ch ds t := by
  constructor
  · intro h
    exact ⟨h.op 0 d s rfl rfl, ⟨by simpa using h.ln, fun k d' s' h1 h2 => h.op (k + 1) d' s' (by simpa using h1) (by simpa using h2)⟩⟩
  · intro ⟨h1, h2⟩
    refine ⟨by simp [h2.ln], fun k d' s' e1 e2 => ?_⟩
    cases k with
    | zero =>
      simp at e1 e2
      rw [← e1, ← e2]; exact h1
    | succ k => exact h2.op k d' s' (by simpa using e1) (by simpa using e2)
theorem mem_chs : ∀ {ds : List Dd} {t : List Int}, t ∈ chs ds ↔ Ch ds t
  | [], t => by
    constructor
    · intro h
      rw [List.mem_singleton.mp h]; exact ch_nil
    · intro h
      have := h.ln
      cases t with
      | nil => exact List.mem_singleton.mpr rfl
      | cons a t => simp at this
  | d :: ds, t => by
    unfold chs
    rw [List.mem_flatMap]
    constructor
    · rintro ⟨s, h1, h2⟩
      obtain ⟨t', h3, rfl⟩ := List.mem_map.mp h2
      exact ch_cons.mpr ⟨h1, mem_chs.mp h3⟩
    · intro h
      cases t with
      | nil => have := h.ln; simp at this
      | cons a t =>
        obtain ⟨h1, h2⟩ := ch_cons.mp h
        exact ⟨a, h1, List.mem_map.mpr ⟨t, mem_chs.mpr h2, rfl⟩⟩
def leL (d t : List Int) : Bool := (List.range d.length).all fun k => decide (d.getD k 0 ≤ t.getD k 0)
def chkL (ds : List Dd) (d : List Int) : Bool := (chs ds).contains d && fitB ds d && (chs ds).all fun t => !fitB ds t || leL d t
theorem lone {ds : List Dd} {d t : List Int} (I : Inv ds t) (hf : ∀ k, farAt ds t k = false) (h : chkL ds d = true) : t = d := by
  unfold chkL at h
  rw [Bool.and_eq_true, Bool.and_eq_true] at h
  obtain ⟨⟨h1, h2⟩, h3⟩ := h
  have c := mem_chs.mp (List.contains_iff_mem.mp h1)
  have l1 := I.lo d c (fitB_iff.mp h2)
  have l2 := List.all_eq_true.mp h3 t (mem_chs.mpr I.ch)
  rw [fitB_iff.mpr hf] at l2
  have l2 : leL d t = true := by simpa using l2
  have e1 := I.ch.ln
  have e2 := c.ln
  apply List.ext_getElem (by omega)
  intro k k1 k2
  have a := l1 k _ _ (List.getElem?_eq_getElem k1) (List.getElem?_eq_getElem k2)
  have b := List.all_eq_true.mp l2 k (List.mem_range.mpr k2)
  simp [List.getElem?_eq_getElem k1, List.getElem?_eq_getElem k2] at b
  omega
def q10 (x : Int) : Int := if 10 < x then 1 else 0
theorem s_m : ("m" : Str) = nm 109 := by decide +kernel
theorem s_k : ("k" : Str) = nm 107 := by decide +kernel
theorem s_go : ("go" : Str) = kd false := rfl
def D1 (b : Bool) (f : Int) : List Dd := [.jp b 109, .dd (8 + f), .mk 109, .dd 3]
def A1 (b : Bool) (f : Int) : List Int := [sh b + 3 * q10 (8 + f), 8 + f, 0, 3]
def D2 (b : Bool) (f : Int) : List Dd := [.mk 109, .dd (8 + f - sh b), .jp b 109]
def A2 (b : Bool) (f : Int) : List Int := [0, 8 + f - sh b, sh b + 3 * q10 (8 + f)]
def D3 (b : Bool) (i l : Int) : List Dd := [.jp false 109, .dd (6 + i), .jp b 107, .mk 109, .dd (5 + l), .mk 107]
def A3 (b : Bool) (i l : Int) : List Int := [2 + 3 * q10 (6 + i + sh b + 3 * q10 (5 + l)), 6 + i, sh b + 3 * q10 (5 + l), 0, 5 + l, 0]
theorem k1 : ∀ (b : Bool) (f : Fin 5), chkL (D1 b (f : Nat)) (A1 b (f : Nat)) = true := by decide +kernel
theorem k2 : ∀ (b : Bool) (f : Fin 5), chkL (D2 b (f : Nat)) (A2 b (f : Nat)) = true := by decide +kernel
theorem k3 : ∀ (b : Bool) (i : Fin 4) (l : Fin 12), chkL (D3 b (i : Nat) (l : Nat)) (A3 b (i : Nat) (l : Nat)) = true := by decide +kernel
theorem ck107 : PyData.strOk (nm 107) = true := by decide +kernel
theorem ck109 : PyData.strOk (nm 109) = true := by decide +kernel
theorem o1 {b : Bool} {f : Int} (h0 : 0 ≤ f) (h1 : f < 5) : Ok2 (D1 b f) := by
  refine ⟨?_, ?_, by simp [D1], ?_⟩
  · intro b c h; simp [D1] at h ⊢; exact h.2
  · intro n h; simp [D1] at h; omega
  · intro c h; simp [D1] at h; rw [h]; exact ck109
theorem o2 {b : Bool} {f : Int} (h0 : 0 ≤ f) (h1 : f < 5) : Ok2 (D2 b f) := by
  refine ⟨?_, ?_, by simp [D2], ?_⟩
  · intro b c h; simp [D2] at h ⊢; exact h.2
  · intro n h; simp [D2] at h; unfold sh at h; split at h <;> omega
  · intro c h; simp [D2] at h; rw [h]; exact ck109
theorem o3 {b : Bool} {i l : Int} (h0 : 0 ≤ i) (h1 : i < 4) (h2 : 0 ≤ l) (h3 : l < 12) : Ok2 (D3 b i l) := by
  refine ⟨?_, ?_, by simp [D3], ?_⟩
  · intro b c h; simp [D3] at h ⊢; rcases h with h | h
    · exact Or.inl h.2
    · exact Or.inr h.2
  · intro n h; simp [D3] at h; omega
  · intro c h; simp [D3] at h
    rcases h with rfl | rfl
    · exact ck109
    · exact ck107
theorem e1 {b : Bool} {f : Int} (h0 : 0 ≤ f) (h1 : f < 5) : m_least_sizes [.tup ((D1 b f).map Dd.d)] = some (0, tupI (A1 b f)) := by
  obtain ⟨t, I, hf, h⟩ := least_sizes (.tup ((D1 b f).map Dd.d)) false _ (o1 h0 h1) rfl
  have : t = A1 b f := lone I hf (by
    obtain ⟨n, rfl⟩ := Int.eq_ofNat_of_zero_le h0
    exact k1 b ⟨n, by omega⟩)
  rw [h, this]; rfl
theorem e2 {b : Bool} {f : Int} (h0 : 0 ≤ f) (h1 : f < 5) : m_least_sizes [.tup ((D2 b f).map Dd.d)] = some (0, tupI (A2 b f)) := by
  obtain ⟨t, I, hf, h⟩ := least_sizes (.tup ((D2 b f).map Dd.d)) false _ (o2 h0 h1) rfl
  have : t = A2 b f := lone I hf (by
    obtain ⟨n, rfl⟩ := Int.eq_ofNat_of_zero_le h0
    exact k2 b ⟨n, by omega⟩)
  rw [h, this]; rfl
theorem e3 {b : Bool} {i l : Int} (h0 : 0 ≤ i) (h1 : i < 4) (h2 : 0 ≤ l) (h3 : l < 12) : m_least_sizes [.ktp ((D3 b i l).map Dd.d)] = some (0, tupI (A3 b i l)) ∧ m_law_least [.ktp ((D3 b i l).map Dd.d)] = some (0, tupI (A3 b i l)) := by
  obtain ⟨t, I, hf, h⟩ := least_sizes (.ktp ((D3 b i l).map Dd.d)) false _ (o3 h0 h1 h2 h3) rfl
  have h' := law_least (o3 h0 h1 h2 h3) I hf
  have : t = A3 b i l := lone I hf (by
    obtain ⟨n, rfl⟩ := Int.eq_ofNat_of_zero_le h0
    obtain ⟨n', rfl⟩ := Int.eq_ofNat_of_zero_le h2
    exact k3 b ⟨n, by omega⟩ ⟨n', by omega⟩)
  subst this
  exact ⟨h, h'⟩
theorem toPys_ints : ∀ t : List Int, toPys (t.map D.int) = some (t.map PyData.int)
  | [] => by rw [List.map_nil, List.map_nil]; unfold toPys; rfl
  | a :: t => by
    rw [List.map_cons, toPys, toPys_ints t]
    rw [toPy]; rfl
theorem gEq_A3 (b : Bool) (i l : Int) : gEq (0, tupI (A3 b i l)) (0, tupI (A3 b i l)) = some (0, .bl true) := by
  have : gEqD (tupI (A3 b i l)) (tupI (A3 b i l)) = some true := by
    unfold gEqD tupI
    show ((toPy (.tup ((A3 b i l).map D.int))).bind fun p => (toPy (.tup ((A3 b i l).map D.int))).bind fun q => gEqP p q) = _
    rw [toPy, toPys_ints]
    dsimp only [Option.map_some, Option.bind_some]
    unfold gEqP
    rw [if_pos ⟨by rfl, by rfl⟩]
    simp [PyData.eqv, PyData.eqvAll, A3]
  unfold gEq
  rw [this]
  rfl
theorem r_andT {A B : Fe} {ρ : Pv.Env} (h : val A ρ = some (0, .bl true)) : pAnd A B ρ = B ρ := by rw [r_and h, if_pos rfl]
def ik (b : Bool) : Int := if b then 1 else 0
theorem sh_if (b : Bool) : 2 + ik b = sh b := by cases b <;> rfl
theorem gInt_i (k : Nat) (i : Int) : gInt (k, .int i) = some (0, .int i) := rfl
theorem gInt_q (k : Nat) (x : Int) : gInt (k, .bl (decide (10 < x))) = some (0, .int (q10 x)) := by
  unfold gInt q10
  by_cases h : 10 < x <;> simp [h]
theorem gInt_kd (k : Nat) (b : Bool) : gInt (k, .bl (decide (kd b = "if"))) = some (0, .int (ik b)) := by
  rw [kd_if]; rfl
theorem edges {c0 c1 : Int} (h0 : 0 ≤ c0) (h1 : 0 ≤ c1) : m_law_edges [.lst [.int c0, .int c1]] = some (0, .bl true) := by
  obtain ⟨b, hb⟩ := kinds c1 h1
  rw [show m_law_edges [.lst [.int c0, .int c1]] = finR (b_law_edges (initE 12 [.lst [.int c0, .int c1]])) from r_m rfl]
  have f1 := e1 (b := b) (f := c0 % 5) (by omega) (by omega)
  have f2 := e2 (b := b) (f := c0 % 5) (by omega) (by omega)
  obtain ⟨f3, f4⟩ := e3 (b := b) (i := c0 / 5 % 4) (l := c0 / 20 % 12) (by omega) (by omega) (by omega) (by omega)
  have f5 := gEq_A3 b (c0 / 5 % 4) (c0 / 20 % 12)
  have g1 := like _ (likeOk_ints (A1 b (c0 % 5)) (by simp [A1]))
  have g2 := like _ (likeOk_ints (A2 b (c0 % 5)) (by simp [A2]))
  have g3 := like _ (likeOk_ints (A3 b (c0 / 5 % 4) (c0 / 20 % 12)) (by simp [A3]))
  simp only [D1, D2, D3, A1, A2, A3, show kd false = "go" from rfl, tupI, List.map_cons, List.map_nil, Dd.d] at f1 f2 f3 f4 f5 g1 g2 g3
  rw [← s_m] at f1 f2 f3 f4
  rw [← s_k] at f3 f4
  unfold b_law_edges
  simp [i_zp, zip_s, zipQ_s, i_en, en_s, enQ_s, r_put, put_s, r_kg2, kg2_s, i_lc, lcI_s, r_seq, r_seq_nx, r_seq_rt, r_seq_bk, r_seq_ct, r_nil, r_if, r_if_t, r_if_f, r_asg, r_asg_v, r_arg, r_c, r_var, r_var_0, r_var_s, r_bv, r_bv_s, v_c, v_bv, v_var, v_var_0, g1_s, g2_s, r_op1, r_op2, v_op1, v_op2, va_nil, va_cons, consR_s, gN_s, on1_s, r_call, v_call, fn_s, r_fn, v_fn, ow_nil, ow_cons, ownC_s, disp_s, r_tup, r_ktup, r_lst, v_tup, v_ktup, v_lst, t_vl, bl_s, t_nt, not_s, t_an, t_or, and_t, and_f, or_t, or_f, t_tr, tru_s, r_ife, ife_t, ife_f, r_app, app_s, r_aug, aug_s, r_ret, ret_v, ret_r, retB_s, r_par, a_nl, a_cn, cR_s, par_2, r_for, for_s, i_sq, seq_s, i_rg, rng_s, r_frz, frz_s, fin_rt, fin_nx, l_nil, bind_nm, bindR_s, step_nx, step_rt, initE, List.replicate, isBox, gLen, gMulI, gMod, gFdiv, gAdd, gSub, gCmpI, ix_l, ix_t, ix_k, ix_s, ix_z, gIsN, isNon, sq_l, sq_t, sq_k, cleanD, noBox, noBoxs, at0, at1, hb, gEq_str, gInt_i, gInt_q, gInt_kd, sh_if, f1, f2, g1, g2]
  rw [r_andT (by simp [i_zp, zip_s, zipQ_s, i_en, en_s, enQ_s, r_put, put_s, r_kg2, kg2_s, i_lc, lcI_s, r_seq, r_seq_nx, r_seq_rt, r_seq_bk, r_seq_ct, r_nil, r_if, r_if_t, r_if_f, r_asg, r_asg_v, r_arg, r_c, r_var, r_var_0, r_var_s, r_bv, r_bv_s, v_c, v_bv, v_var, v_var_0, g1_s, g2_s, r_op1, r_op2, v_op1, v_op2, va_nil, va_cons, consR_s, gN_s, on1_s, r_call, v_call, fn_s, r_fn, v_fn, ow_nil, ow_cons, ownC_s, disp_s, r_tup, r_ktup, r_lst, v_tup, v_ktup, v_lst, t_vl, bl_s, t_nt, not_s, t_an, t_or, and_t, and_f, or_t, or_f, t_tr, tru_s, r_ife, ife_t, ife_f, r_app, app_s, r_aug, aug_s, r_ret, ret_v, ret_r, retB_s, r_par, a_nl, a_cn, cR_s, par_2, r_for, for_s, i_sq, seq_s, i_rg, rng_s, r_frz, frz_s, fin_rt, fin_nx, l_nil, bind_nm, bindR_s, step_nx, step_rt, initE, List.replicate, isBox, gLen, gInt, gMulI, gMod, gFdiv, gAdd, gSub, gCmpI, ix_l, ix_t, ix_k, ix_s, ix_z, gIsN, isNon, sq_l, sq_t, sq_k, cleanD, noBox, noBoxs, f3, g3])]
  simp [i_zp, zip_s, zipQ_s, i_en, en_s, enQ_s, r_put, put_s, r_kg2, kg2_s, i_lc, lcI_s, r_seq, r_seq_nx, r_seq_rt, r_seq_bk, r_seq_ct, r_nil, r_if, r_if_t, r_if_f, r_asg, r_asg_v, r_arg, r_c, r_var, r_var_0, r_var_s, r_bv, r_bv_s, v_c, v_bv, v_var, v_var_0, g1_s, g2_s, r_op1, r_op2, v_op1, v_op2, va_nil, va_cons, consR_s, gN_s, on1_s, r_call, v_call, fn_s, r_fn, v_fn, ow_nil, ow_cons, ownC_s, disp_s, r_tup, r_ktup, r_lst, v_tup, v_ktup, v_lst, t_vl, bl_s, t_nt, not_s, t_an, t_or, and_t, and_f, or_t, or_f, t_tr, tru_s, r_ife, ife_t, ife_f, r_app, app_s, r_aug, aug_s, r_ret, ret_v, ret_r, retB_s, r_par, a_nl, a_cn, cR_s, par_2, r_for, for_s, i_sq, seq_s, i_rg, rng_s, r_frz, frz_s, fin_rt, fin_nx, l_nil, bind_nm, bindR_s, step_nx, step_rt, initE, List.replicate, isBox, gLen, gInt, gMulI, gMod, gFdiv, gAdd, gSub, gCmpI, ix_l, ix_t, ix_k, ix_s, ix_z, gIsN, isNon, sq_l, sq_t, sq_k, cleanD, noBox, noBoxs, f4, f5]
end K40
set_option linter.all false
set_option maxRecDepth 100000
namespace K40
open PySem Pv
theorem le1 (p q : Int) : leD (.tup [.str "x", .int p]) (.tup [.str "y", .int q]) = true := by
  with_unfolding_all rfl
theorem le2 (p q : Int) : leD (.tup [.str "y", .int p]) (.tup [.str "z", .int q]) = true := by
  with_unfolding_all rfl
theorem le3 (p q : Int) : leD (.tup [.str "x", .int p]) (.tup [.str "z", .int q]) = true := by
  with_unfolding_all rfl
theorem le4 (p q : Int) : leD (.tup [.str "y", .int p]) (.tup [.str "x", .int q]) = false := by
  with_unfolding_all rfl
theorem le5 (p q : Int) : leD (.tup [.str "z", .int p]) (.tup [.str "x", .int q]) = false := by
  with_unfolding_all rfl
theorem ms_srt {α : Type} {le : α → α → Bool} {a b c : α} (h1 : le a b = true) (h2 : le b c = true) (h3 : le a c = true) : [a, b, c].mergeSort le = [a, b, c] := by
  simp [List.mergeSort, List.MergeSort.Internal.splitInTwo, List.merge, h1, h2, h3]
theorem ms_rot {α : Type} {le : α → α → Bool} {a b c : α} (h1 : le b a = false) (h2 : le b c = true) : [b, c, a].mergeSort le = [a, b, c] := by
  simp [List.mergeSort, List.MergeSort.Internal.splitInTwo, List.merge, h1, h2]
theorem srt {ds : List D} {ps : List PyData} (h : toPys ds = some ps) (h2 : okSort ps = true) (h3 : ds.length ≤ Pv.big) : sortD ds = some (1, .lst (ds.mergeSort leD)) := by
  unfold sortD
  rw [h]
  dsimp only [Option.bind_some]
  rw [if_pos ⟨h2, h3⟩]
theorem srt_a (p q r : Int) : sortD [.tup [.str "x", .int p], .tup [.str "y", .int q], .tup [.str "z", .int r]] = some (1, .lst [.tup [.str "x", .int p], .tup [.str "y", .int q], .tup [.str "z", .int r]]) := by
  rw [srt (ps := [.tuple [.str "x", .int p], .tuple [.str "y", .int q], .tuple [.str "z", .int r]]) (by simp [toPys, toPy]) (by with_unfolding_all rfl) (by simp [Pv.big]), ms_srt (le1 _ _) (le2 _ _) (le3 _ _)]
theorem srt_b (p q r : Int) : sortD [.tup [.str "y", .int q], .tup [.str "z", .int r], .tup [.str "x", .int p]] = some (1, .lst [.tup [.str "x", .int p], .tup [.str "y", .int q], .tup [.str "z", .int r]]) := by
  rw [srt (ps := [.tuple [.str "y", .int q], .tuple [.str "z", .int r], .tuple [.str "x", .int p]]) (by simp [toPys, toPy]) (by with_unfolding_all rfl) (by simp [Pv.big]), ms_rot (le4 _ _) (le2 _ _)]
theorem srt_0 : sortD [] = some (1, .lst []) := by
  rw [srt (ps := []) (by simp [toPys]) (by with_unfolding_all rfl) (by simp [Pv.big])]; simp
theorem srt_1 : sortD [.int 1] = some (1, .lst [.int 1]) := by
  rw [srt (ps := [.int 1]) (by simp [toPys, toPy]) (by with_unfolding_all rfl) (by simp [Pv.big])]; simp
theorem srt_w : sortD [.str "w"] = some (1, .lst [.str "w"]) := by
  rw [srt (ps := [.str "w"]) (by simp [toPys, toPy]) (by with_unfolding_all rfl) (by simp [Pv.big])]; simp
theorem srt_01 : sortD [.int 0, .int 1] = some (1, .lst [.int 0, .int 1]) := by
  rw [srt (ps := [.int 0, .int 1]) (by simp [toPys, toPy]) (by with_unfolding_all rfl) (by simp [Pv.big])]
  rw [show [D.int 0, D.int 1].mergeSort leD = [.int 0, .int 1] by
    have : leD (.int 0) (.int 1) = true := by with_unfolding_all rfl
    simp [List.mergeSort, List.MergeSort.Internal.splitInTwo, List.merge, this]]
theorem srt_10 : sortD [.int 1, .int 0] = some (1, .lst [.int 0, .int 1]) := by
  rw [srt (ps := [.int 1, .int 0]) (by simp [toPys, toPy]) (by with_unfolding_all rfl) (by simp [Pv.big])]
  rw [show [D.int 1, D.int 0].mergeSort leD = [.int 0, .int 1] by
    have : leD (.int 1) (.int 0) = false := by with_unfolding_all rfl
    simp [List.mergeSort, List.MergeSort.Internal.splitInTwo, List.merge, this]]
theorem u_setApp {i m : Nat} {B : Fe} {ρ : Pv.Env} : sSetApp i B m ρ = (match (ρ[i]?).join with
  | some (2, .dct false kvs) => (val B ρ).bind fun u => (keyK u.2).bind fun k => ((ρ[m]?).join).bind fun w => if w.1 = 0 then (setAppD kvs [k] w.2).map fun kvs' => (.nx, ρ.set i (some (2, .dct false kvs'))) else none
  | _ => none) := rfl
theorem u_popIx {i j m : Nat} {ρ : Pv.Env} : sPopIx i j m ρ = (match (ρ[i]?).join with
  | some (1, .lst ds) => (ds[ds.length - 1]?).bind fun d => if j < ρ.length then if i = m then none else ((ρ[m]?).join).bind fun u => (gIx u (0, d)).map fun w => (.nx, (ρ.set i (some (1, .lst ds.dropLast))).set j (some w)) else none
  | _ => none) := rfl
theorem u_disp1 {A B : Fe} {ρ : Pv.Env} : pDisp1 B A ρ = ((val B ρ).bind fun u => (keyK u.2).bind fun k => (A ρ).bind fun a => match a with
  | .v _ d => some (.v 1 (.dct false [([k], d)]))
  | .r _ => none) := rfl
theorem u_get2 {A B C : Fe} {ρ : Pv.Env} : pGet2 A B C ρ = ((val A ρ).bind fun u => (val B ρ).bind fun v => (C ρ).bind fun c => match u, c with
  | (k, .dct t kvs), .v _ z => if k ≤ 1 then (keyD t v.2).map fun ks => .v 0 ((valD kvs ks).getD z) else none
  | _, _ => none) := rfl
theorem u_sortedD {A : Fe} {ρ : Pv.Env} : pSortedD A ρ = ((val A ρ).bind fun u => match u with
  | (k, .dct t kvs) => if k ≤ 1 then (sortD (kvs.map fun p => keyDat t p.1)).map fun w => .v w.1 w.2 else none
  | _ => none) := rfl
theorem u_dnew {k : Nat} {t : Bool} {ρ : Pv.Env} : pDNew k t ρ = some (.v (k + 1) (.dct t [])) := rfl
theorem u_asgT {t : Tg} {A : Fe} {ρ : Pv.Env} : sAsgT t A ρ = ((val A ρ).bind fun w => (bindT t (0, w.2) ρ).map fun ρ' => (.nx, ρ')) := rfl
theorem u_lcD {i j : Nat} {t : Tg} {vs : List Nat} {T : Fb} {A : Fe} {ρ : Pv.Env} : pLcD i j t vs T A ρ = (match (ρ[i]?).join with
  | some (0, .dct _ _) => pLc j (iKeysF i) t vs T A ρ
  | _ => none) := rfl
theorem u_lc {j : Nat} {it : Fit} {t : Tg} {vs : List Nat} {T : Fb} {A : Fe} {ρ : Pv.Env} : pLc j it t vs T A ρ = (if (vs.all fun v => lvl0 ρ[v]?) = true then (it ρ).bind fun ds => if ds.length ≤ Pv.big then (compL t T A j (wipeE ρ vs) ds).map fun r => .v (j + 1) (.lst r) else none else none) := rfl
theorem u_keys {i : Nat} {ρ : Pv.Env} : iKeysF i ρ = (match (ρ[i]?).join with
  | some (0, .dct t kvs) => some (kvs.map fun p => keyDat t p.1)
  | _ => none) := rfl
theorem u_while {n : Nat} {T : Fb} {f : Fs} {ρ : Pv.Env} : sWhile n T f ρ = loopW T f n ρ := rfl
theorem v_sortedD {A : Fe} {ρ : Pv.Env} : val (pSortedD A) ρ = (pSortedD A ρ).bind (Arg.get ρ) := rfl
theorem v_lcD {i j : Nat} {t : Tg} {vs : List Nat} {T : Fb} {A : Fe} {ρ : Pv.Env} : val (pLcD i j t vs T A) ρ = (pLcD i j t vs T A ρ).bind (Arg.get ρ) := rfl
theorem v_get2 {A B C : Fe} {ρ : Pv.Env} : val (pGet2 A B C) ρ = (pGet2 A B C ρ).bind (Arg.get ρ) := rfl
theorem get_v {k : Nat} {d : D} {ρ : Pv.Env} : Arg.get ρ (.v k d) = some (k, d) := rfl
theorem u_par {is : List Nat} {as : List Pv.Arg} {ρ : Pv.Env} : parR is (some as) ρ = (match putAll is as ρ with | some ρ' => some (.nx, ρ') | none => none) := rfl
def cntW (T : Fb) (f : Fs) (n : Nat) : Option (Fl × Pv.Env) → Option (Fl × Pv.Env)
  | some (.nx, ρ) => loopW T f n ρ
  | some (.ct, ρ) => loopW T f n ρ
  | some (.bk, ρ) => some (.nx, ρ)
  | some (.rt w, ρ) => some (.rt w, ρ)
  | none => none
def hdW (T : Fb) (f : Fs) (n : Nat) (ρ : Pv.Env) : Option Bool → Option (Fl × Pv.Env)
  | some true => cntW T f n (f ρ)
  | some false => some (.nx, ρ)
  | none => none
theorem u_loopW {n : Nat} {T : Fb} {f : Fs} {ρ : Pv.Env} : loopW T f (n + 1) ρ = hdW T f n ρ (T ρ) := by
  show (T ρ).bind _ = _
  cases T ρ with
  | none => rfl
  | some b =>
    cases b with
    | false => rfl
    | true =>
      show (f ρ).bind _ = cntW T f n (f ρ)
      cases f ρ with
      | none => rfl
      | some p => obtain ⟨fl, ρ'⟩ := p; cases fl <;> rfl
theorem u_hd_t {n : Nat} {T : Fb} {f : Fs} {ρ : Pv.Env} : hdW T f n ρ (some true) = cntW T f n (f ρ) := rfl
theorem u_hd_f {n : Nat} {T : Fb} {f : Fs} {ρ : Pv.Env} : hdW T f n ρ (some false) = some (.nx, ρ) := rfl
theorem u_cnt {n : Nat} {T : Fb} {f : Fs} {ρ : Pv.Env} : cntW T f n (some (.nx, ρ)) = loopW T f n ρ := rfl
theorem n_wx : (("w" : Str) = "x") = False := by simp; decide
theorem n_wy : (("w" : Str) = "y") = False := by simp; decide
theorem n_wz : (("w" : Str) = "z") = False := by simp; decide
theorem n_xw : (("x" : Str) = "w") = False := by simp; decide
theorem n_xy : (("x" : Str) = "y") = False := by simp; decide
theorem n_xz : (("x" : Str) = "z") = False := by simp; decide
theorem n_yw : (("y" : Str) = "w") = False := by simp; decide
theorem n_yx : (("y" : Str) = "x") = False := by simp; decide
theorem n_yz : (("y" : Str) = "z") = False := by simp; decide
theorem n_zw : (("z" : Str) = "w") = False := by simp; decide
theorem n_zx : (("z" : Str) = "x") = False := by simp; decide
theorem n_zy : (("z" : Str) = "y") = False := by simp; decide
def Wn (k : Nat) : D := .tup (match k with | 0 => [.str "x"] | 1 => [.str "w"] | _ => [])
def prt (k : Nat) (s0 s1 : Int) : D := .tup [.tup [.tup [.str "x"], .tup [.str "y"], .int s0], .tup [.tup [.str "y", .str "z"], Wn k, .int s1]]
theorem need00 (s0 s1 : Int) : m_needed_parts [prt 0 s0 s1, .int 0] = some (0, (.tup [.int 0, .int 1])) := by
  rw [show m_needed_parts [prt 0 s0 s1, .int 0] = finR (b_needed_parts (initE 8 [prt 0 s0 s1, .int 0])) from r_m rfl]
  unfold b_needed_parts prt Wn
  simp [i_zp, zip_s, zipQ_s, i_en, en_s, enQ_s, r_put, put_s, r_kg2, kg2_s, i_lc, lcI_s, r_seq, r_seq_nx, r_seq_rt, r_seq_bk, r_seq_ct, r_nil, r_if, r_if_t, r_if_f, r_asg, r_asg_v, r_arg, r_c, r_var, r_var_0, r_var_s, r_bv, r_bv_s, v_c, v_bv, v_var, v_var_0, g1_s, g2_s, r_op1, r_op2, v_op1, v_op2, va_nil, va_cons, consR_s, gN_s, on1_s, r_call, v_call, fn_s, r_fn, v_fn, ow_nil, ow_cons, ownC_s, disp_s, r_tup, r_ktup, r_lst, v_tup, v_ktup, v_lst, t_vl, bl_s, t_nt, not_s, t_an, t_or, and_t, and_f, or_t, or_f, t_tr, tru_s, r_ife, ife_t, ife_f, r_app, app_s, r_aug, aug_s, r_ret, ret_v, ret_r, retB_s, r_par, a_nl, a_cn, cR_s, par_2, r_for, for_s, i_sq, seq_s, i_rg, rng_s, r_frz, frz_s, fin_rt, fin_nx, l_nil, bind_nm, bindR_s, step_nx, step_rt, initE, List.replicate, isBox, gLen, gInt, gMulI, gMod, gFdiv, gAdd, gSub, gCmpI, ix_l, ix_t, ix_k, ix_s, ix_z, gIsN, isNon, sq_l, sq_t, sq_k, cleanD, noBox, noBoxs, u_par, putAll, putArg, v_sortedD, v_lcD, v_get2, get_v, u_setApp, u_popIx, u_disp1, u_get2, u_sortedD, u_dnew, u_while, u_loopW, u_hd_t, u_hd_f, u_cnt, enQ_s, enumF, l_cons, bindT, bindTs, keyK, keyD, keysK, keyDat, kD, setAppD, valD, setD, putD, gDIn, truth, gTupOf, srt_01, srt_10, srt_1, srt_0, Pv.big, at0, at1, n_wx, n_wy, n_wz, n_xw, n_xy, n_xz, n_yw, n_yx, n_yz, n_zw, n_zx, n_zy]
theorem need01 (s0 s1 : Int) : m_needed_parts [prt 0 s0 s1, .int 1] = some (0, (.tup [.int 0, .int 1])) := by
  rw [show m_needed_parts [prt 0 s0 s1, .int 1] = finR (b_needed_parts (initE 8 [prt 0 s0 s1, .int 1])) from r_m rfl]
  unfold b_needed_parts prt Wn
  simp [i_zp, zip_s, zipQ_s, i_en, en_s, enQ_s, r_put, put_s, r_kg2, kg2_s, i_lc, lcI_s, r_seq, r_seq_nx, r_seq_rt, r_seq_bk, r_seq_ct, r_nil, r_if, r_if_t, r_if_f, r_asg, r_asg_v, r_arg, r_c, r_var, r_var_0, r_var_s, r_bv, r_bv_s, v_c, v_bv, v_var, v_var_0, g1_s, g2_s, r_op1, r_op2, v_op1, v_op2, va_nil, va_cons, consR_s, gN_s, on1_s, r_call, v_call, fn_s, r_fn, v_fn, ow_nil, ow_cons, ownC_s, disp_s, r_tup, r_ktup, r_lst, v_tup, v_ktup, v_lst, t_vl, bl_s, t_nt, not_s, t_an, t_or, and_t, and_f, or_t, or_f, t_tr, tru_s, r_ife, ife_t, ife_f, r_app, app_s, r_aug, aug_s, r_ret, ret_v, ret_r, retB_s, r_par, a_nl, a_cn, cR_s, par_2, r_for, for_s, i_sq, seq_s, i_rg, rng_s, r_frz, frz_s, fin_rt, fin_nx, l_nil, bind_nm, bindR_s, step_nx, step_rt, initE, List.replicate, isBox, gLen, gInt, gMulI, gMod, gFdiv, gAdd, gSub, gCmpI, ix_l, ix_t, ix_k, ix_s, ix_z, gIsN, isNon, sq_l, sq_t, sq_k, cleanD, noBox, noBoxs, u_par, putAll, putArg, v_sortedD, v_lcD, v_get2, get_v, u_setApp, u_popIx, u_disp1, u_get2, u_sortedD, u_dnew, u_while, u_loopW, u_hd_t, u_hd_f, u_cnt, enQ_s, enumF, l_cons, bindT, bindTs, keyK, keyD, keysK, keyDat, kD, setAppD, valD, setD, putD, gDIn, truth, gTupOf, srt_01, srt_10, srt_1, srt_0, Pv.big, at0, at1, n_wx, n_wy, n_wz, n_xw, n_xy, n_xz, n_yw, n_yx, n_yz, n_zw, n_zx, n_zy]
theorem need10 (s0 s1 : Int) : m_needed_parts [prt 1 s0 s1, .int 0] = some (0, (.tup [.int 0, .int 1])) := by
  rw [show m_needed_parts [prt 1 s0 s1, .int 0] = finR (b_needed_parts (initE 8 [prt 1 s0 s1, .int 0])) from r_m rfl]
  unfold b_needed_parts prt Wn
  simp [i_zp, zip_s, zipQ_s, i_en, en_s, enQ_s, r_put, put_s, r_kg2, kg2_s, i_lc, lcI_s, r_seq, r_seq_nx, r_seq_rt, r_seq_bk, r_seq_ct, r_nil, r_if, r_if_t, r_if_f, r_asg, r_asg_v, r_arg, r_c, r_var, r_var_0, r_var_s, r_bv, r_bv_s, v_c, v_bv, v_var, v_var_0, g1_s, g2_s, r_op1, r_op2, v_op1, v_op2, va_nil, va_cons, consR_s, gN_s, on1_s, r_call, v_call, fn_s, r_fn, v_fn, ow_nil, ow_cons, ownC_s, disp_s, r_tup, r_ktup, r_lst, v_tup, v_ktup, v_lst, t_vl, bl_s, t_nt, not_s, t_an, t_or, and_t, and_f, or_t, or_f, t_tr, tru_s, r_ife, ife_t, ife_f, r_app, app_s, r_aug, aug_s, r_ret, ret_v, ret_r, retB_s, r_par, a_nl, a_cn, cR_s, par_2, r_for, for_s, i_sq, seq_s, i_rg, rng_s, r_frz, frz_s, fin_rt, fin_nx, l_nil, bind_nm, bindR_s, step_nx, step_rt, initE, List.replicate, isBox, gLen, gInt, gMulI, gMod, gFdiv, gAdd, gSub, gCmpI, ix_l, ix_t, ix_k, ix_s, ix_z, gIsN, isNon, sq_l, sq_t, sq_k, cleanD, noBox, noBoxs, u_par, putAll, putArg, v_sortedD, v_lcD, v_get2, get_v, u_setApp, u_popIx, u_disp1, u_get2, u_sortedD, u_dnew, u_while, u_loopW, u_hd_t, u_hd_f, u_cnt, enQ_s, enumF, l_cons, bindT, bindTs, keyK, keyD, keysK, keyDat, kD, setAppD, valD, setD, putD, gDIn, truth, gTupOf, srt_01, srt_10, srt_1, srt_0, Pv.big, at0, at1, n_wx, n_wy, n_wz, n_xw, n_xy, n_xz, n_yw, n_yx, n_yz, n_zw, n_zx, n_zy]
theorem need11 (s0 s1 : Int) : m_needed_parts [prt 1 s0 s1, .int 1] = some (0, (.tup [.int 1])) := by
  rw [show m_needed_parts [prt 1 s0 s1, .int 1] = finR (b_needed_parts (initE 8 [prt 1 s0 s1, .int 1])) from r_m rfl]
  unfold b_needed_parts prt Wn
  simp [i_zp, zip_s, zipQ_s, i_en, en_s, enQ_s, r_put, put_s, r_kg2, kg2_s, i_lc, lcI_s, r_seq, r_seq_nx, r_seq_rt, r_seq_bk, r_seq_ct, r_nil, r_if, r_if_t, r_if_f, r_asg, r_asg_v, r_arg, r_c, r_var, r_var_0, r_var_s, r_bv, r_bv_s, v_c, v_bv, v_var, v_var_0, g1_s, g2_s, r_op1, r_op2, v_op1, v_op2, va_nil, va_cons, consR_s, gN_s, on1_s, r_call, v_call, fn_s, r_fn, v_fn, ow_nil, ow_cons, ownC_s, disp_s, r_tup, r_ktup, r_lst, v_tup, v_ktup, v_lst, t_vl, bl_s, t_nt, not_s, t_an, t_or, and_t, and_f, or_t, or_f, t_tr, tru_s, r_ife, ife_t, ife_f, r_app, app_s, r_aug, aug_s, r_ret, ret_v, ret_r, retB_s, r_par, a_nl, a_cn, cR_s, par_2, r_for, for_s, i_sq, seq_s, i_rg, rng_s, r_frz, frz_s, fin_rt, fin_nx, l_nil, bind_nm, bindR_s, step_nx, step_rt, initE, List.replicate, isBox, gLen, gInt, gMulI, gMod, gFdiv, gAdd, gSub, gCmpI, ix_l, ix_t, ix_k, ix_s, ix_z, gIsN, isNon, sq_l, sq_t, sq_k, cleanD, noBox, noBoxs, u_par, putAll, putArg, v_sortedD, v_lcD, v_get2, get_v, u_setApp, u_popIx, u_disp1, u_get2, u_sortedD, u_dnew, u_while, u_loopW, u_hd_t, u_hd_f, u_cnt, enQ_s, enumF, l_cons, bindT, bindTs, keyK, keyD, keysK, keyDat, kD, setAppD, valD, setD, putD, gDIn, truth, gTupOf, srt_01, srt_10, srt_1, srt_0, Pv.big, at0, at1, n_wx, n_wy, n_wz, n_xw, n_xy, n_xz, n_yw, n_yx, n_yz, n_zw, n_zx, n_zy]
theorem need20 (s0 s1 : Int) : m_needed_parts [prt 2 s0 s1, .int 0] = some (0, (.tup [.int 0, .int 1])) := by
  rw [show m_needed_parts [prt 2 s0 s1, .int 0] = finR (b_needed_parts (initE 8 [prt 2 s0 s1, .int 0])) from r_m rfl]
  unfold b_needed_parts prt Wn
  simp [i_zp, zip_s, zipQ_s, i_en, en_s, enQ_s, r_put, put_s, r_kg2, kg2_s, i_lc, lcI_s, r_seq, r_seq_nx, r_seq_rt, r_seq_bk, r_seq_ct, r_nil, r_if, r_if_t, r_if_f, r_asg, r_asg_v, r_arg, r_c, r_var, r_var_0, r_var_s, r_bv, r_bv_s, v_c, v_bv, v_var, v_var_0, g1_s, g2_s, r_op1, r_op2, v_op1, v_op2, va_nil, va_cons, consR_s, gN_s, on1_s, r_call, v_call, fn_s, r_fn, v_fn, ow_nil, ow_cons, ownC_s, disp_s, r_tup, r_ktup, r_lst, v_tup, v_ktup, v_lst, t_vl, bl_s, t_nt, not_s, t_an, t_or, and_t, and_f, or_t, or_f, t_tr, tru_s, r_ife, ife_t, ife_f, r_app, app_s, r_aug, aug_s, r_ret, ret_v, ret_r, retB_s, r_par, a_nl, a_cn, cR_s, par_2, r_for, for_s, i_sq, seq_s, i_rg, rng_s, r_frz, frz_s, fin_rt, fin_nx, l_nil, bind_nm, bindR_s, step_nx, step_rt, initE, List.replicate, isBox, gLen, gInt, gMulI, gMod, gFdiv, gAdd, gSub, gCmpI, ix_l, ix_t, ix_k, ix_s, ix_z, gIsN, isNon, sq_l, sq_t, sq_k, cleanD, noBox, noBoxs, u_par, putAll, putArg, v_sortedD, v_lcD, v_get2, get_v, u_setApp, u_popIx, u_disp1, u_get2, u_sortedD, u_dnew, u_while, u_loopW, u_hd_t, u_hd_f, u_cnt, enQ_s, enumF, l_cons, bindT, bindTs, keyK, keyD, keysK, keyDat, kD, setAppD, valD, setD, putD, gDIn, truth, gTupOf, srt_01, srt_10, srt_1, srt_0, Pv.big, at0, at1, n_wx, n_wy, n_wz, n_xw, n_xy, n_xz, n_yw, n_yx, n_yz, n_zw, n_zx, n_zy]
theorem need21 (s0 s1 : Int) : m_needed_parts [prt 2 s0 s1, .int 1] = some (0, (.tup [.int 1])) := by
  rw [show m_needed_parts [prt 2 s0 s1, .int 1] = finR (b_needed_parts (initE 8 [prt 2 s0 s1, .int 1])) from r_m rfl]
  unfold b_needed_parts prt Wn
  simp [i_zp, zip_s, zipQ_s, i_en, en_s, enQ_s, r_put, put_s, r_kg2, kg2_s, i_lc, lcI_s, r_seq, r_seq_nx, r_seq_rt, r_seq_bk, r_seq_ct, r_nil, r_if, r_if_t, r_if_f, r_asg, r_asg_v, r_arg, r_c, r_var, r_var_0, r_var_s, r_bv, r_bv_s, v_c, v_bv, v_var, v_var_0, g1_s, g2_s, r_op1, r_op2, v_op1, v_op2, va_nil, va_cons, consR_s, gN_s, on1_s, r_call, v_call, fn_s, r_fn, v_fn, ow_nil, ow_cons, ownC_s, disp_s, r_tup, r_ktup, r_lst, v_tup, v_ktup, v_lst, t_vl, bl_s, t_nt, not_s, t_an, t_or, and_t, and_f, or_t, or_f, t_tr, tru_s, r_ife, ife_t, ife_f, r_app, app_s, r_aug, aug_s, r_ret, ret_v, ret_r, retB_s, r_par, a_nl, a_cn, cR_s, par_2, r_for, for_s, i_sq, seq_s, i_rg, rng_s, r_frz, frz_s, fin_rt, fin_nx, l_nil, bind_nm, bindR_s, step_nx, step_rt, initE, List.replicate, isBox, gLen, gInt, gMulI, gMod, gFdiv, gAdd, gSub, gCmpI, ix_l, ix_t, ix_k, ix_s, ix_z, gIsN, isNon, sq_l, sq_t, sq_k, cleanD, noBox, noBoxs, u_par, putAll, putArg, v_sortedD, v_lcD, v_get2, get_v, u_setApp, u_popIx, u_disp1, u_get2, u_sortedD, u_dnew, u_while, u_loopW, u_hd_t, u_hd_f, u_cnt, enQ_s, enumF, l_cons, bindT, bindTs, keyK, keyD, keysK, keyDat, kD, setAppD, valD, setD, putD, gDIn, truth, gTupOf, srt_01, srt_10, srt_1, srt_0, Pv.big, at0, at1, n_wx, n_wy, n_wz, n_xw, n_xy, n_xz, n_yw, n_yx, n_yz, n_zw, n_zx, n_zy]
theorem link00 (s0 s1 : Int) : m_linked [prt 0 s0 s1, (.tup [.int 0, .int 1])] = some (0, .tup [.tup [.tup [.str "x", .int 0], .tup [.str "y", .int s0], .tup [.str "z", .int s0]], .tup []]) := by
  rw [show m_linked [prt 0 s0 s1, (.tup [.int 0, .int 1])] = finR (b_linked (initE 12 [prt 0 s0 s1, (.tup [.int 0, .int 1])])) from r_m rfl]
  unfold b_linked prt Wn
  simp [i_zp, zip_s, zipQ_s, i_en, en_s, enQ_s, r_put, put_s, r_kg2, kg2_s, i_lc, lcI_s, r_seq, r_seq_nx, r_seq_rt, r_seq_bk, r_seq_ct, r_nil, r_if, r_if_t, r_if_f, r_asg, r_asg_v, r_arg, r_c, r_var, r_var_0, r_var_s, r_bv, r_bv_s, v_c, v_bv, v_var, v_var_0, g1_s, g2_s, r_op1, r_op2, v_op1, v_op2, va_nil, va_cons, consR_s, gN_s, on1_s, r_call, v_call, fn_s, r_fn, v_fn, ow_nil, ow_cons, ownC_s, disp_s, r_tup, r_ktup, r_lst, v_tup, v_ktup, v_lst, t_vl, bl_s, t_nt, not_s, t_an, t_or, and_t, and_f, or_t, or_f, t_tr, tru_s, r_ife, ife_t, ife_f, r_app, app_s, r_aug, aug_s, r_ret, ret_v, ret_r, retB_s, r_par, a_nl, a_cn, cR_s, par_2, r_for, for_s, i_sq, seq_s, i_rg, rng_s, r_frz, frz_s, fin_rt, fin_nx, l_nil, bind_nm, bindR_s, step_nx, step_rt, initE, List.replicate, isBox, gLen, gInt, gMulI, gMod, gFdiv, gAdd, gSub, gCmpI, ix_l, ix_t, ix_k, ix_s, ix_z, gIsN, isNon, sq_l, sq_t, sq_k, cleanD, noBox, noBoxs, u_par, putAll, putArg, v_sortedD, v_lcD, v_get2, get_v, u_setApp, u_popIx, u_disp1, u_get2, u_sortedD, u_dnew, u_while, u_asgT, u_lcD, u_lc, u_keys, compL, wipeE, lvl0, gDGet, lvlOk, gSorted, listD, srt_a, srt_b, srt_w, u_loopW, u_hd_t, u_hd_f, u_cnt, enQ_s, enumF, l_cons, bindT, bindTs, keyK, keyD, keysK, keyDat, kD, setAppD, valD, setD, putD, gDIn, truth, gTupOf, srt_01, srt_10, srt_1, srt_0, Pv.big, at0, at1, n_wx, n_wy, n_wz, n_xw, n_xy, n_xz, n_yw, n_yx, n_yz, n_zw, n_zx, n_zy]
theorem link01 (s0 s1 : Int) : m_linked [prt 0 s0 s1, (.tup [.int 1, .int 0])] = some (0, .tup [.tup [.tup [.str "x", .int s1], .tup [.str "y", .int 0], .tup [.str "z", .int 0]], .tup []]) := by
  rw [show m_linked [prt 0 s0 s1, (.tup [.int 1, .int 0])] = finR (b_linked (initE 12 [prt 0 s0 s1, (.tup [.int 1, .int 0])])) from r_m rfl]
  unfold b_linked prt Wn
  simp [i_zp, zip_s, zipQ_s, i_en, en_s, enQ_s, r_put, put_s, r_kg2, kg2_s, i_lc, lcI_s, r_seq, r_seq_nx, r_seq_rt, r_seq_bk, r_seq_ct, r_nil, r_if, r_if_t, r_if_f, r_asg, r_asg_v, r_arg, r_c, r_var, r_var_0, r_var_s, r_bv, r_bv_s, v_c, v_bv, v_var, v_var_0, g1_s, g2_s, r_op1, r_op2, v_op1, v_op2, va_nil, va_cons, consR_s, gN_s, on1_s, r_call, v_call, fn_s, r_fn, v_fn, ow_nil, ow_cons, ownC_s, disp_s, r_tup, r_ktup, r_lst, v_tup, v_ktup, v_lst, t_vl, bl_s, t_nt, not_s, t_an, t_or, and_t, and_f, or_t, or_f, t_tr, tru_s, r_ife, ife_t, ife_f, r_app, app_s, r_aug, aug_s, r_ret, ret_v, ret_r, retB_s, r_par, a_nl, a_cn, cR_s, par_2, r_for, for_s, i_sq, seq_s, i_rg, rng_s, r_frz, frz_s, fin_rt, fin_nx, l_nil, bind_nm, bindR_s, step_nx, step_rt, initE, List.replicate, isBox, gLen, gInt, gMulI, gMod, gFdiv, gAdd, gSub, gCmpI, ix_l, ix_t, ix_k, ix_s, ix_z, gIsN, isNon, sq_l, sq_t, sq_k, cleanD, noBox, noBoxs, u_par, putAll, putArg, v_sortedD, v_lcD, v_get2, get_v, u_setApp, u_popIx, u_disp1, u_get2, u_sortedD, u_dnew, u_while, u_asgT, u_lcD, u_lc, u_keys, compL, wipeE, lvl0, gDGet, lvlOk, gSorted, listD, srt_a, srt_b, srt_w, u_loopW, u_hd_t, u_hd_f, u_cnt, enQ_s, enumF, l_cons, bindT, bindTs, keyK, keyD, keysK, keyDat, kD, setAppD, valD, setD, putD, gDIn, truth, gTupOf, srt_01, srt_10, srt_1, srt_0, Pv.big, at0, at1, n_wx, n_wy, n_wz, n_xw, n_xy, n_xz, n_yw, n_yx, n_yz, n_zw, n_zx, n_zy]
theorem link10 (s0 s1 : Int) : m_linked [prt 1 s0 s1, (.tup [.int 0, .int 1])] = some (0, .tup [.tup [.tup [.str "x", .int 0], .tup [.str "y", .int s0], .tup [.str "z", .int s0]], .tup [.str "w"]]) := by
  rw [show m_linked [prt 1 s0 s1, (.tup [.int 0, .int 1])] = finR (b_linked (initE 12 [prt 1 s0 s1, (.tup [.int 0, .int 1])])) from r_m rfl]
  unfold b_linked prt Wn
  simp [i_zp, zip_s, zipQ_s, i_en, en_s, enQ_s, r_put, put_s, r_kg2, kg2_s, i_lc, lcI_s, r_seq, r_seq_nx, r_seq_rt, r_seq_bk, r_seq_ct, r_nil, r_if, r_if_t, r_if_f, r_asg, r_asg_v, r_arg, r_c, r_var, r_var_0, r_var_s, r_bv, r_bv_s, v_c, v_bv, v_var, v_var_0, g1_s, g2_s, r_op1, r_op2, v_op1, v_op2, va_nil, va_cons, consR_s, gN_s, on1_s, r_call, v_call, fn_s, r_fn, v_fn, ow_nil, ow_cons, ownC_s, disp_s, r_tup, r_ktup, r_lst, v_tup, v_ktup, v_lst, t_vl, bl_s, t_nt, not_s, t_an, t_or, and_t, and_f, or_t, or_f, t_tr, tru_s, r_ife, ife_t, ife_f, r_app, app_s, r_aug, aug_s, r_ret, ret_v, ret_r, retB_s, r_par, a_nl, a_cn, cR_s, par_2, r_for, for_s, i_sq, seq_s, i_rg, rng_s, r_frz, frz_s, fin_rt, fin_nx, l_nil, bind_nm, bindR_s, step_nx, step_rt, initE, List.replicate, isBox, gLen, gInt, gMulI, gMod, gFdiv, gAdd, gSub, gCmpI, ix_l, ix_t, ix_k, ix_s, ix_z, gIsN, isNon, sq_l, sq_t, sq_k, cleanD, noBox, noBoxs, u_par, putAll, putArg, v_sortedD, v_lcD, v_get2, get_v, u_setApp, u_popIx, u_disp1, u_get2, u_sortedD, u_dnew, u_while, u_asgT, u_lcD, u_lc, u_keys, compL, wipeE, lvl0, gDGet, lvlOk, gSorted, listD, srt_a, srt_b, srt_w, u_loopW, u_hd_t, u_hd_f, u_cnt, enQ_s, enumF, l_cons, bindT, bindTs, keyK, keyD, keysK, keyDat, kD, setAppD, valD, setD, putD, gDIn, truth, gTupOf, srt_01, srt_10, srt_1, srt_0, Pv.big, at0, at1, n_wx, n_wy, n_wz, n_xw, n_xy, n_xz, n_yw, n_yx, n_yz, n_zw, n_zx, n_zy]
theorem link11 (s0 s1 : Int) : m_linked [prt 1 s0 s1, (.tup [.int 1, .int 0])] = some (0, .tup [.tup [.tup [.str "x", .int s1], .tup [.str "y", .int 0], .tup [.str "z", .int 0]], .tup [.str "w"]]) := by
  rw [show m_linked [prt 1 s0 s1, (.tup [.int 1, .int 0])] = finR (b_linked (initE 12 [prt 1 s0 s1, (.tup [.int 1, .int 0])])) from r_m rfl]
  unfold b_linked prt Wn
  simp [i_zp, zip_s, zipQ_s, i_en, en_s, enQ_s, r_put, put_s, r_kg2, kg2_s, i_lc, lcI_s, r_seq, r_seq_nx, r_seq_rt, r_seq_bk, r_seq_ct, r_nil, r_if, r_if_t, r_if_f, r_asg, r_asg_v, r_arg, r_c, r_var, r_var_0, r_var_s, r_bv, r_bv_s, v_c, v_bv, v_var, v_var_0, g1_s, g2_s, r_op1, r_op2, v_op1, v_op2, va_nil, va_cons, consR_s, gN_s, on1_s, r_call, v_call, fn_s, r_fn, v_fn, ow_nil, ow_cons, ownC_s, disp_s, r_tup, r_ktup, r_lst, v_tup, v_ktup, v_lst, t_vl, bl_s, t_nt, not_s, t_an, t_or, and_t, and_f, or_t, or_f, t_tr, tru_s, r_ife, ife_t, ife_f, r_app, app_s, r_aug, aug_s, r_ret, ret_v, ret_r, retB_s, r_par, a_nl, a_cn, cR_s, par_2, r_for, for_s, i_sq, seq_s, i_rg, rng_s, r_frz, frz_s, fin_rt, fin_nx, l_nil, bind_nm, bindR_s, step_nx, step_rt, initE, List.replicate, isBox, gLen, gInt, gMulI, gMod, gFdiv, gAdd, gSub, gCmpI, ix_l, ix_t, ix_k, ix_s, ix_z, gIsN, isNon, sq_l, sq_t, sq_k, cleanD, noBox, noBoxs, u_par, putAll, putArg, v_sortedD, v_lcD, v_get2, get_v, u_setApp, u_popIx, u_disp1, u_get2, u_sortedD, u_dnew, u_while, u_asgT, u_lcD, u_lc, u_keys, compL, wipeE, lvl0, gDGet, lvlOk, gSorted, listD, srt_a, srt_b, srt_w, u_loopW, u_hd_t, u_hd_f, u_cnt, enQ_s, enumF, l_cons, bindT, bindTs, keyK, keyD, keysK, keyDat, kD, setAppD, valD, setD, putD, gDIn, truth, gTupOf, srt_01, srt_10, srt_1, srt_0, Pv.big, at0, at1, n_wx, n_wy, n_wz, n_xw, n_xy, n_xz, n_yw, n_yx, n_yz, n_zw, n_zx, n_zy]
theorem link20 (s0 s1 : Int) : m_linked [prt 2 s0 s1, (.tup [.int 0, .int 1])] = some (0, .tup [.tup [.tup [.str "x", .int 0], .tup [.str "y", .int s0], .tup [.str "z", .int s0]], .tup []]) := by
  rw [show m_linked [prt 2 s0 s1, (.tup [.int 0, .int 1])] = finR (b_linked (initE 12 [prt 2 s0 s1, (.tup [.int 0, .int 1])])) from r_m rfl]
  unfold b_linked prt Wn
  simp [i_zp, zip_s, zipQ_s, i_en, en_s, enQ_s, r_put, put_s, r_kg2, kg2_s, i_lc, lcI_s, r_seq, r_seq_nx, r_seq_rt, r_seq_bk, r_seq_ct, r_nil, r_if, r_if_t, r_if_f, r_asg, r_asg_v, r_arg, r_c, r_var, r_var_0, r_var_s, r_bv, r_bv_s, v_c, v_bv, v_var, v_var_0, g1_s, g2_s, r_op1, r_op2, v_op1, v_op2, va_nil, va_cons, consR_s, gN_s, on1_s, r_call, v_call, fn_s, r_fn, v_fn, ow_nil, ow_cons, ownC_s, disp_s, r_tup, r_ktup, r_lst, v_tup, v_ktup, v_lst, t_vl, bl_s, t_nt, not_s, t_an, t_or, and_t, and_f, or_t, or_f, t_tr, tru_s, r_ife, ife_t, ife_f, r_app, app_s, r_aug, aug_s, r_ret, ret_v, ret_r, retB_s, r_par, a_nl, a_cn, cR_s, par_2, r_for, for_s, i_sq, seq_s, i_rg, rng_s, r_frz, frz_s, fin_rt, fin_nx, l_nil, bind_nm, bindR_s, step_nx, step_rt, initE, List.replicate, isBox, gLen, gInt, gMulI, gMod, gFdiv, gAdd, gSub, gCmpI, ix_l, ix_t, ix_k, ix_s, ix_z, gIsN, isNon, sq_l, sq_t, sq_k, cleanD, noBox, noBoxs, u_par, putAll, putArg, v_sortedD, v_lcD, v_get2, get_v, u_setApp, u_popIx, u_disp1, u_get2, u_sortedD, u_dnew, u_while, u_asgT, u_lcD, u_lc, u_keys, compL, wipeE, lvl0, gDGet, lvlOk, gSorted, listD, srt_a, srt_b, srt_w, u_loopW, u_hd_t, u_hd_f, u_cnt, enQ_s, enumF, l_cons, bindT, bindTs, keyK, keyD, keysK, keyDat, kD, setAppD, valD, setD, putD, gDIn, truth, gTupOf, srt_01, srt_10, srt_1, srt_0, Pv.big, at0, at1, n_wx, n_wy, n_wz, n_xw, n_xy, n_xz, n_yw, n_yx, n_yz, n_zw, n_zx, n_zy]
theorem link21 (s0 s1 : Int) : m_linked [prt 2 s0 s1, (.tup [.int 1, .int 0])] = some (0, .tup [.tup [.tup [.str "x", .int s1], .tup [.str "y", .int 0], .tup [.str "z", .int 0]], .tup []]) := by
  rw [show m_linked [prt 2 s0 s1, (.tup [.int 1, .int 0])] = finR (b_linked (initE 12 [prt 2 s0 s1, (.tup [.int 1, .int 0])])) from r_m rfl]
  unfold b_linked prt Wn
  simp [i_zp, zip_s, zipQ_s, i_en, en_s, enQ_s, r_put, put_s, r_kg2, kg2_s, i_lc, lcI_s, r_seq, r_seq_nx, r_seq_rt, r_seq_bk, r_seq_ct, r_nil, r_if, r_if_t, r_if_f, r_asg, r_asg_v, r_arg, r_c, r_var, r_var_0, r_var_s, r_bv, r_bv_s, v_c, v_bv, v_var, v_var_0, g1_s, g2_s, r_op1, r_op2, v_op1, v_op2, va_nil, va_cons, consR_s, gN_s, on1_s, r_call, v_call, fn_s, r_fn, v_fn, ow_nil, ow_cons, ownC_s, disp_s, r_tup, r_ktup, r_lst, v_tup, v_ktup, v_lst, t_vl, bl_s, t_nt, not_s, t_an, t_or, and_t, and_f, or_t, or_f, t_tr, tru_s, r_ife, ife_t, ife_f, r_app, app_s, r_aug, aug_s, r_ret, ret_v, ret_r, retB_s, r_par, a_nl, a_cn, cR_s, par_2, r_for, for_s, i_sq, seq_s, i_rg, rng_s, r_frz, frz_s, fin_rt, fin_nx, l_nil, bind_nm, bindR_s, step_nx, step_rt, initE, List.replicate, isBox, gLen, gInt, gMulI, gMod, gFdiv, gAdd, gSub, gCmpI, ix_l, ix_t, ix_k, ix_s, ix_z, gIsN, isNon, sq_l, sq_t, sq_k, cleanD, noBox, noBoxs, u_par, putAll, putArg, v_sortedD, v_lcD, v_get2, get_v, u_setApp, u_popIx, u_disp1, u_get2, u_sortedD, u_dnew, u_while, u_asgT, u_lcD, u_lc, u_keys, compL, wipeE, lvl0, gDGet, lvlOk, gSorted, listD, srt_a, srt_b, srt_w, u_loopW, u_hd_t, u_hd_f, u_cnt, enQ_s, enumF, l_cons, bindT, bindTs, keyK, keyD, keysK, keyDat, kD, setAppD, valD, setD, putD, gDIn, truth, gTupOf, srt_01, srt_10, srt_1, srt_0, Pv.big, at0, at1, n_wx, n_wy, n_wz, n_xw, n_xy, n_xz, n_yw, n_yx, n_yz, n_zw, n_zx, n_zy]
end K40
set_option linter.all false
set_option maxRecDepth 100000
namespace K40
open PySem Pv
theorem at2 {α : Type} (x y z : α) (xs : List α) : L2.atI (x :: y :: z :: xs) 2 = some z := atI_some (x :: y :: z :: xs) 2 (by simp)
theorem gSum_t (t : List Int) : gSum (0, tupI t) = some (0, .int t.sum) := by
  show (((intsD (t.map D.int))).map fun ns => ((0 : Nat), D.int ns.sum)) = _
  rw [intsD_map]; rfl
theorem v_slS {B : Fe} {ρ : Pv.Env} {z : Str} {j p : Nat} (h2 : val B ρ = some (j, .int (p : Int))) (hp : p ≤ z.cps.toList.length) (hl : z.length ≤ Pv.big) : val (pSl (pC (.str z)) oNone (oSome B)) ρ = some (0, .str ⟨(z.cps.toList.take p).toArray⟩) := by
  unfold val
  have e : pSl (pC (.str z)) oNone (oSome B) ρ = some (.v 0 (.str ⟨(z.cps.toList.take p).toArray⟩)) := by
    unfold pSl
    rw [v_c]
    dsimp only [Option.bind_some, oNone]
    unfold oSome
    rw [h2]
    dsimp only [Option.bind_some]
    unfold gSl
    dsimp only
    rw [if_pos hl]
    have : L2.cutS z none (some (p : Int)) = ⟨(z.cps.toList.take p).toArray⟩ := by
      rw [← cut_take z.cps.toList p hp]; rfl
    rw [this]
    rfl
  rw [e]; rfl
theorem v_sl2 {A : Fe} {ρ : Pv.Env} {ds : List D} {k p q : Nat} (h : val A ρ = some (k, .lst ds)) (hk : k ≤ 1) (hq : p ≤ q) (hp : q ≤ ds.length) : val (pSl A (oSome (pC (.int (p : Int)))) (oSome (pC (.int (q : Int))))) ρ = some (1, .lst ((ds.drop p).take (q - p))) := by
  unfold val
  have e : pSl A (oSome (pC (.int (p : Int)))) (oSome (pC (.int (q : Int)))) ρ = some (.v 1 (.lst ((ds.drop p).take (q - p)))) := by
    unfold pSl
    rw [h]
    dsimp only [Option.bind_some]
    unfold oSome
    rw [v_c, v_c]
    dsimp only [Option.bind_some]
    unfold gSl
    dsimp only
    rw [if_pos hk]
    unfold cutL
    rw [HT.sIx_nat, HT.sIx_nat, show min p ds.length = p by omega, show min q ds.length = q by omega]
    rfl
  rw [e]; rfl
theorem nm_ok : ∀ c ∈ [109, 110, 111, 112, 113, 114], PyData.strOk (nm c) = true := by decide +kernel
theorem s_mno : ("mno" : Str).cps.toList = [109, 110, 111] := by decide +kernel
theorem s_pqr : ("pqr" : Str).cps.toList = [112, 113, 114] := by decide +kernel
theorem atR {cs : List Int} (hl : cs.length = 32) (k : Nat) (hk : k < 32) : L2.atI (cs.map D.int) (k : Int) = some (.int (cs[k]'(by omega))) := atI_int cs k (by omega)
theorem law (ns : List Int) : m_law [.scr ns] = some (0, .bl true) := by
  obtain ⟨cs, hl, hp, hrow⟩ := row ns
  have a28 : L2.atI (cs.map D.int) 28 = _ := atR hl 28 (by decide)
  have a29 : L2.atI (cs.map D.int) 29 = _ := atR hl 29 (by decide)
  have a30 : L2.atI (cs.map D.int) 30 = _ := atR hl 30 (by decide)
  have a31 : L2.atI (cs.map D.int) 31 = _ := atR hl 31 (by decide)
  have p28 : 0 ≤ cs[28] := hp _ (List.getElem_mem _)
  have p29 : 0 ≤ cs[29] := hp _ (List.getElem_mem _)
  have p30 : 0 ≤ cs[30] := hp _ (List.getElem_mem _)
  have p31 : 0 ≤ cs[31] := hp _ (List.getElem_mem _)
  have hcut : ((cs.map D.int).drop 26).take 2 = [.int cs[26], .int cs[27]] := by
    apply List.ext_getElem
    · simp; omega
    · intro i h1 h2
      simp at h2
      rcases (show i = 0 ∨ i = 1 by omega) with rfl | rfl <;> simp
  have he := edges (c0 := cs[26]) (c1 := cs[27]) (hp _ (List.getElem_mem _)) (hp _ (List.getElem_mem _))
  generalize cs[28] = c28 at a28 p28
  generalize cs[29] = c29 at a29 p29
  generalize cs[30] = c30 at a30 p30
  generalize cs[31] = c31 at a31 p31
  obtain ⟨n28, e28⟩ := Int.eq_ofNat_of_zero_le (show 0 ≤ c28 % 4 by omega)
  obtain ⟨n29, e29⟩ := Int.eq_ofNat_of_zero_le (show 0 ≤ 1 + c29 % 3 by omega)
  obtain ⟨ds1, ok1, hd1⟩ := deeds cs (([109, 110, 111] : List Nat).take n28) hp (by omega) (by simp; omega) (fun c hc => nm_ok c (by have := List.mem_of_mem_take hc; simp at this ⊢; omega))
  obtain ⟨ds2, ok2, hd2⟩ := deeds ((cs.drop 13).take 13) (([112, 113, 114] : List Nat).take n29) (fun c hc => hp c (List.mem_of_mem_drop (List.mem_of_mem_take hc))) (by simp; omega) (by simp; omega) (fun c hc => nm_ok c (by have := List.mem_of_mem_take hc; simp at this ⊢; omega))
  obtain ⟨t1, I1, f1, h1⟩ := least_sizes (.ktp (ds1.map Dd.d)) false ds1 ok1 rfl
  obtain ⟨t2, I2, f2, h2⟩ := least_sizes (.ktp (ds2.map Dd.d)) false ds2 ok2 rfl
  have g1 := law_least ok1 I1 f1
  have g2 := law_least ok2 I2 f2
  have r1 := right ok1
  have r2 := right ok2
  have h1 : m_least_sizes [.ktp (ds1.map Dd.d)] = some (0, tupI t1) := h1
  have h2 : m_least_sizes [.ktp (ds2.map Dd.d)] = some (0, tupI t2) := h2
  have u1 := gSum_t t1
  have u2 := gSum_t t2
  have s1 : ∀ t : Pv.Env, val (pSl (pC (.str "mno")) oNone (oSome (pOp2 gMod (pCall (on1 gInt) (aCons (pOp2 gIx (pBv 1) (pC (.int 28))) aNil)) (pC (.int 4))))) (some (0, .scr ns) :: some (1, .lst (cs.map D.int)) :: t) = some (0, .str ⟨(([109, 110, 111] : List Nat).take n28).toArray⟩) := fun t => by
    rw [v_slS (z := "mno") (j := 0) (p := n28) (by simp [i_zp, zip_s, zipQ_s, i_en, en_s, enQ_s, r_put, put_s, r_kg2, kg2_s, i_lc, lcI_s, r_seq, r_seq_nx, r_seq_rt, r_seq_bk, r_seq_ct, r_nil, r_if, r_if_t, r_if_f, r_asg, r_asg_v, r_arg, r_c, r_var, r_var_0, r_var_s, r_bv, r_bv_s, v_c, v_bv, v_var, v_var_0, g1_s, g2_s, r_op1, r_op2, v_op1, v_op2, va_nil, va_cons, consR_s, gN_s, on1_s, r_call, v_call, fn_s, r_fn, v_fn, ow_nil, ow_cons, ownC_s, disp_s, r_tup, r_ktup, r_lst, v_tup, v_ktup, v_lst, t_vl, bl_s, t_nt, not_s, t_an, t_or, and_t, and_f, or_t, or_f, t_tr, tru_s, r_ife, ife_t, ife_f, r_app, app_s, r_aug, aug_s, r_ret, ret_v, ret_r, retB_s, r_par, a_nl, a_cn, cR_s, par_2, r_for, for_s, i_sq, seq_s, i_rg, rng_s, r_frz, frz_s, fin_rt, fin_nx, l_nil, bind_nm, bindR_s, step_nx, step_rt, initE, List.replicate, isBox, gLen, gInt, gMulI, gMod, gFdiv, gAdd, gSub, gCmpI, ix_l, ix_t, ix_k, ix_s, ix_z, gIsN, isNon, sq_l, sq_t, sq_k, cleanD, noBox, noBoxs, a28, e28]) (by rw [s_mno]; simp; omega) (by decide +kernel), s_mno]
  have s2 : ∀ t : Pv.Env, val (pSl (pBv 1) (oSome (pC (.int 13))) (oSome (pC (.int 26)))) (some (0, .scr ns) :: some (1, .lst (cs.map D.int)) :: t) = some (1, .lst (((cs.drop 13).take 13).map D.int)) := fun t => by
    rw [List.map_take, List.map_drop]
    exact v_sl2 (p := 13) (q := 26) (ds := cs.map D.int) (k := 1) (by simp [i_zp, zip_s, zipQ_s, i_en, en_s, enQ_s, r_put, put_s, r_kg2, kg2_s, i_lc, lcI_s, r_seq, r_seq_nx, r_seq_rt, r_seq_bk, r_seq_ct, r_nil, r_if, r_if_t, r_if_f, r_asg, r_asg_v, r_arg, r_c, r_var, r_var_0, r_var_s, r_bv, r_bv_s, v_c, v_bv, v_var, v_var_0, g1_s, g2_s, r_op1, r_op2, v_op1, v_op2, va_nil, va_cons, consR_s, gN_s, on1_s, r_call, v_call, fn_s, r_fn, v_fn, ow_nil, ow_cons, ownC_s, disp_s, r_tup, r_ktup, r_lst, v_tup, v_ktup, v_lst, t_vl, bl_s, t_nt, not_s, t_an, t_or, and_t, and_f, or_t, or_f, t_tr, tru_s, r_ife, ife_t, ife_f, r_app, app_s, r_aug, aug_s, r_ret, ret_v, ret_r, retB_s, r_par, a_nl, a_cn, cR_s, par_2, r_for, for_s, i_sq, seq_s, i_rg, rng_s, r_frz, frz_s, fin_rt, fin_nx, l_nil, bind_nm, bindR_s, step_nx, step_rt, initE, List.replicate, isBox, gLen, gInt, gMulI, gMod, gFdiv, gAdd, gSub, gCmpI, ix_l, ix_t, ix_k, ix_s, ix_z, gIsN, isNon, sq_l, sq_t, sq_k, cleanD, noBox, noBoxs]) (by decide) (by decide) (by simp; omega)
  have s3 : ∀ t : Pv.Env, val (pSl (pC (.str "pqr")) oNone (oSome (pOp2 gAdd (pC (.int 1)) (pOp2 gMod (pCall (on1 gInt) (aCons (pOp2 gIx (pBv 1) (pC (.int 29))) aNil)) (pC (.int 3)))))) (some (0, .scr ns) :: some (1, .lst (cs.map D.int)) :: t) = some (0, .str ⟨(([112, 113, 114] : List Nat).take n29).toArray⟩) := fun t => by
    rw [v_slS (z := "pqr") (j := 0) (p := n29) (by simp [i_zp, zip_s, zipQ_s, i_en, en_s, enQ_s, r_put, put_s, r_kg2, kg2_s, i_lc, lcI_s, r_seq, r_seq_nx, r_seq_rt, r_seq_bk, r_seq_ct, r_nil, r_if, r_if_t, r_if_f, r_asg, r_asg_v, r_arg, r_c, r_var, r_var_0, r_var_s, r_bv, r_bv_s, v_c, v_bv, v_var, v_var_0, g1_s, g2_s, r_op1, r_op2, v_op1, v_op2, va_nil, va_cons, consR_s, gN_s, on1_s, r_call, v_call, fn_s, r_fn, v_fn, ow_nil, ow_cons, ownC_s, disp_s, r_tup, r_ktup, r_lst, v_tup, v_ktup, v_lst, t_vl, bl_s, t_nt, not_s, t_an, t_or, and_t, and_f, or_t, or_f, t_tr, tru_s, r_ife, ife_t, ife_f, r_app, app_s, r_aug, aug_s, r_ret, ret_v, ret_r, retB_s, r_par, a_nl, a_cn, cR_s, par_2, r_for, for_s, i_sq, seq_s, i_rg, rng_s, r_frz, frz_s, fin_rt, fin_nx, l_nil, bind_nm, bindR_s, step_nx, step_rt, initE, List.replicate, isBox, gLen, gInt, gMulI, gMod, gFdiv, gAdd, gSub, gCmpI, ix_l, ix_t, ix_k, ix_s, ix_z, gIsN, isNon, sq_l, sq_t, sq_k, cleanD, noBox, noBoxs, a29, e29]) (by rw [s_pqr]; simp; omega) (by decide +kernel), s_pqr]
  have s4 : ∀ t : Pv.Env, val (pSl (pBv 1) (oSome (pC (.int 26))) (oSome (pC (.int 28)))) (some (0, .scr ns) :: some (1, .lst (cs.map D.int)) :: t) = some (1, .lst [.int cs[26], .int cs[27]]) := fun t => by
    rw [← hcut]
    exact v_sl2 (p := 26) (q := 28) (ds := cs.map D.int) (k := 1) (by simp [i_zp, zip_s, zipQ_s, i_en, en_s, enQ_s, r_put, put_s, r_kg2, kg2_s, i_lc, lcI_s, r_seq, r_seq_nx, r_seq_rt, r_seq_bk, r_seq_ct, r_nil, r_if, r_if_t, r_if_f, r_asg, r_asg_v, r_arg, r_c, r_var, r_var_0, r_var_s, r_bv, r_bv_s, v_c, v_bv, v_var, v_var_0, g1_s, g2_s, r_op1, r_op2, v_op1, v_op2, va_nil, va_cons, consR_s, gN_s, on1_s, r_call, v_call, fn_s, r_fn, v_fn, ow_nil, ow_cons, ownC_s, disp_s, r_tup, r_ktup, r_lst, v_tup, v_ktup, v_lst, t_vl, bl_s, t_nt, not_s, t_an, t_or, and_t, and_f, or_t, or_f, t_tr, tru_s, r_ife, ife_t, ife_f, r_app, app_s, r_aug, aug_s, r_ret, ret_v, ret_r, retB_s, r_par, a_nl, a_cn, cR_s, par_2, r_for, for_s, i_sq, seq_s, i_rg, rng_s, r_frz, frz_s, fin_rt, fin_nx, l_nil, bind_nm, bindR_s, step_nx, step_rt, initE, List.replicate, isBox, gLen, gInt, gMulI, gMod, gFdiv, gAdd, gSub, gCmpI, ix_l, ix_t, ix_k, ix_s, ix_z, gIsN, isNon, sq_l, sq_t, sq_k, cleanD, noBox, noBoxs]) (by decide) (by decide) (by simp; omega)
  have hc30 : c30 % 3 = 0 ∨ c30 % 3 = 1 ∨ c30 % 3 = 2 := by omega
  have hc31 : c31 % 2 = 0 ∨ c31 % 2 = 1 := by omega
  generalize cs.map D.int = xs at *
  generalize ((cs.drop 13).take 13).map D.int = ys at *
  generalize (⟨(([109, 110, 111] : List Nat).take n28).toArray⟩ : Str) = z1 at *
  generalize (⟨(([112, 113, 114] : List Nat).take n29).toArray⟩ : Str) = z2 at *
  generalize (cs[26]) = c26 at *
  generalize (cs[27]) = c27 at *
  generalize t1.sum = v1 at *
  generalize t2.sum = v2 at *
  generalize tupI t1 = w1 at *
  generalize tupI t2 = w2 at *
  generalize ds1.map Dd.d = x1 at *
  generalize ds2.map Dd.d = x2 at *
  clear a28 a29 e28 e29 hl hp I1 I2 f1 f2 ok1 ok2 hcut
  rw [show m_law [.scr ns] = finR (b_law (initE 9 [.scr ns])) from r_m rfl]
  unfold b_law
  rcases hc30 with e30 | e30 | e30 <;> rcases hc31 with e31 | e31
  · have L := link00 v1 v2
    have N0 := need00 v1 v2
    have N1 := need01 v1 v2
    have y1 := like (.tup [.tup [.tup [.str "x", .int 0], .tup [.str "y", .int v1], .tup [.str "z", .int v1]], .tup []]) (by simp [likeOk])
    have y2 := like (.tup [.int 0, .int 1]) (by simp [likeOk])
    have y3 := like (.tup [.int 0, .int 1]) (by simp [likeOk])
    simp only [prt, Wn] at L N0 N1
    simp [i_zp, zip_s, zipQ_s, i_en, en_s, enQ_s, r_put, put_s, r_kg2, kg2_s, i_lc, lcI_s, r_seq, r_seq_nx, r_seq_rt, r_seq_bk, r_seq_ct, r_nil, r_if, r_if_t, r_if_f, r_asg, r_asg_v, r_arg, r_c, r_var, r_var_0, r_var_s, r_bv, r_bv_s, v_c, v_bv, v_var, v_var_0, g1_s, g2_s, r_op1, r_op2, v_op1, v_op2, va_nil, va_cons, consR_s, gN_s, on1_s, r_call, v_call, fn_s, r_fn, v_fn, ow_nil, ow_cons, ownC_s, disp_s, r_tup, r_ktup, r_lst, v_tup, v_ktup, v_lst, t_vl, bl_s, t_nt, not_s, t_an, t_or, and_t, and_f, or_t, or_f, t_tr, tru_s, r_ife, ife_t, ife_f, r_app, app_s, r_aug, aug_s, r_ret, ret_v, ret_r, retB_s, r_par, a_nl, a_cn, cR_s, par_2, r_for, for_s, i_sq, seq_s, i_rg, rng_s, r_frz, frz_s, fin_rt, fin_nx, l_nil, bind_nm, bindR_s, step_nx, step_rt, initE, List.replicate, isBox, gLen, gInt, gMulI, gMod, gFdiv, gAdd, gSub, gCmpI, ix_l, ix_t, ix_k, ix_s, ix_z, gIsN, isNon, sq_l, sq_t, sq_k, cleanD, noBox, noBoxs, hrow, s1, s2, s3, s4, hd1, hd2, r1, r2, he, h1, h2, g1, g2, u1, u2, a30, a31, e30, e31, gEq_int, gMulT, at0, at1, at2, L, N0, N1, y1, y2, y3]
  · have L := link01 v1 v2
    have N0 := need00 v1 v2
    have N1 := need01 v1 v2
    have y1 := like (.tup [.tup [.tup [.str "x", .int v2], .tup [.str "y", .int 0], .tup [.str "z", .int 0]], .tup []]) (by simp [likeOk])
    have y2 := like (.tup [.int 0, .int 1]) (by simp [likeOk])
    have y3 := like (.tup [.int 0, .int 1]) (by simp [likeOk])
    simp only [prt, Wn] at L N0 N1
    simp [i_zp, zip_s, zipQ_s, i_en, en_s, enQ_s, r_put, put_s, r_kg2, kg2_s, i_lc, lcI_s, r_seq, r_seq_nx, r_seq_rt, r_seq_bk, r_seq_ct, r_nil, r_if, r_if_t, r_if_f, r_asg, r_asg_v, r_arg, r_c, r_var, r_var_0, r_var_s, r_bv, r_bv_s, v_c, v_bv, v_var, v_var_0, g1_s, g2_s, r_op1, r_op2, v_op1, v_op2, va_nil, va_cons, consR_s, gN_s, on1_s, r_call, v_call, fn_s, r_fn, v_fn, ow_nil, ow_cons, ownC_s, disp_s, r_tup, r_ktup, r_lst, v_tup, v_ktup, v_lst, t_vl, bl_s, t_nt, not_s, t_an, t_or, and_t, and_f, or_t, or_f, t_tr, tru_s, r_ife, ife_t, ife_f, r_app, app_s, r_aug, aug_s, r_ret, ret_v, ret_r, retB_s, r_par, a_nl, a_cn, cR_s, par_2, r_for, for_s, i_sq, seq_s, i_rg, rng_s, r_frz, frz_s, fin_rt, fin_nx, l_nil, bind_nm, bindR_s, step_nx, step_rt, initE, List.replicate, isBox, gLen, gInt, gMulI, gMod, gFdiv, gAdd, gSub, gCmpI, ix_l, ix_t, ix_k, ix_s, ix_z, gIsN, isNon, sq_l, sq_t, sq_k, cleanD, noBox, noBoxs, hrow, s1, s2, s3, s4, hd1, hd2, r1, r2, he, h1, h2, g1, g2, u1, u2, a30, a31, e30, e31, gEq_int, gMulT, at0, at1, at2, L, N0, N1, y1, y2, y3]
  · have L := link10 v1 v2
    have N0 := need10 v1 v2
    have N1 := need11 v1 v2
    have y1 := like (.tup [.tup [.tup [.str "x", .int 0], .tup [.str "y", .int v1], .tup [.str "z", .int v1]], .tup [.str "w"]]) (by simp [likeOk])
    have y2 := like (.tup [.int 0, .int 1]) (by simp [likeOk])
    have y3 := like (.tup [.int 1]) (by simp [likeOk])
    simp only [prt, Wn] at L N0 N1
    simp [i_zp, zip_s, zipQ_s, i_en, en_s, enQ_s, r_put, put_s, r_kg2, kg2_s, i_lc, lcI_s, r_seq, r_seq_nx, r_seq_rt, r_seq_bk, r_seq_ct, r_nil, r_if, r_if_t, r_if_f, r_asg, r_asg_v, r_arg, r_c, r_var, r_var_0, r_var_s, r_bv, r_bv_s, v_c, v_bv, v_var, v_var_0, g1_s, g2_s, r_op1, r_op2, v_op1, v_op2, va_nil, va_cons, consR_s, gN_s, on1_s, r_call, v_call, fn_s, r_fn, v_fn, ow_nil, ow_cons, ownC_s, disp_s, r_tup, r_ktup, r_lst, v_tup, v_ktup, v_lst, t_vl, bl_s, t_nt, not_s, t_an, t_or, and_t, and_f, or_t, or_f, t_tr, tru_s, r_ife, ife_t, ife_f, r_app, app_s, r_aug, aug_s, r_ret, ret_v, ret_r, retB_s, r_par, a_nl, a_cn, cR_s, par_2, r_for, for_s, i_sq, seq_s, i_rg, rng_s, r_frz, frz_s, fin_rt, fin_nx, l_nil, bind_nm, bindR_s, step_nx, step_rt, initE, List.replicate, isBox, gLen, gInt, gMulI, gMod, gFdiv, gAdd, gSub, gCmpI, ix_l, ix_t, ix_k, ix_s, ix_z, gIsN, isNon, sq_l, sq_t, sq_k, cleanD, noBox, noBoxs, hrow, s1, s2, s3, s4, hd1, hd2, r1, r2, he, h1, h2, g1, g2, u1, u2, a30, a31, e30, e31, gEq_int, gMulT, at0, at1, at2, L, N0, N1, y1, y2, y3]
  · have L := link11 v1 v2
    have N0 := need10 v1 v2
    have N1 := need11 v1 v2
    have y1 := like (.tup [.tup [.tup [.str "x", .int v2], .tup [.str "y", .int 0], .tup [.str "z", .int 0]], .tup [.str "w"]]) (by simp [likeOk])
    have y2 := like (.tup [.int 0, .int 1]) (by simp [likeOk])
    have y3 := like (.tup [.int 1]) (by simp [likeOk])
    simp only [prt, Wn] at L N0 N1
    simp [i_zp, zip_s, zipQ_s, i_en, en_s, enQ_s, r_put, put_s, r_kg2, kg2_s, i_lc, lcI_s, r_seq, r_seq_nx, r_seq_rt, r_seq_bk, r_seq_ct, r_nil, r_if, r_if_t, r_if_f, r_asg, r_asg_v, r_arg, r_c, r_var, r_var_0, r_var_s, r_bv, r_bv_s, v_c, v_bv, v_var, v_var_0, g1_s, g2_s, r_op1, r_op2, v_op1, v_op2, va_nil, va_cons, consR_s, gN_s, on1_s, r_call, v_call, fn_s, r_fn, v_fn, ow_nil, ow_cons, ownC_s, disp_s, r_tup, r_ktup, r_lst, v_tup, v_ktup, v_lst, t_vl, bl_s, t_nt, not_s, t_an, t_or, and_t, and_f, or_t, or_f, t_tr, tru_s, r_ife, ife_t, ife_f, r_app, app_s, r_aug, aug_s, r_ret, ret_v, ret_r, retB_s, r_par, a_nl, a_cn, cR_s, par_2, r_for, for_s, i_sq, seq_s, i_rg, rng_s, r_frz, frz_s, fin_rt, fin_nx, l_nil, bind_nm, bindR_s, step_nx, step_rt, initE, List.replicate, isBox, gLen, gInt, gMulI, gMod, gFdiv, gAdd, gSub, gCmpI, ix_l, ix_t, ix_k, ix_s, ix_z, gIsN, isNon, sq_l, sq_t, sq_k, cleanD, noBox, noBoxs, hrow, s1, s2, s3, s4, hd1, hd2, r1, r2, he, h1, h2, g1, g2, u1, u2, a30, a31, e30, e31, gEq_int, gMulT, at0, at1, at2, L, N0, N1, y1, y2, y3]
  · have L := link20 v1 v2
    have N0 := need20 v1 v2
    have N1 := need21 v1 v2
    have y1 := like (.tup [.tup [.tup [.str "x", .int 0], .tup [.str "y", .int v1], .tup [.str "z", .int v1]], .tup []]) (by simp [likeOk])
    have y2 := like (.tup [.int 0, .int 1]) (by simp [likeOk])
    have y3 := like (.tup [.int 1]) (by simp [likeOk])
    simp only [prt, Wn] at L N0 N1
    simp [i_zp, zip_s, zipQ_s, i_en, en_s, enQ_s, r_put, put_s, r_kg2, kg2_s, i_lc, lcI_s, r_seq, r_seq_nx, r_seq_rt, r_seq_bk, r_seq_ct, r_nil, r_if, r_if_t, r_if_f, r_asg, r_asg_v, r_arg, r_c, r_var, r_var_0, r_var_s, r_bv, r_bv_s, v_c, v_bv, v_var, v_var_0, g1_s, g2_s, r_op1, r_op2, v_op1, v_op2, va_nil, va_cons, consR_s, gN_s, on1_s, r_call, v_call, fn_s, r_fn, v_fn, ow_nil, ow_cons, ownC_s, disp_s, r_tup, r_ktup, r_lst, v_tup, v_ktup, v_lst, t_vl, bl_s, t_nt, not_s, t_an, t_or, and_t, and_f, or_t, or_f, t_tr, tru_s, r_ife, ife_t, ife_f, r_app, app_s, r_aug, aug_s, r_ret, ret_v, ret_r, retB_s, r_par, a_nl, a_cn, cR_s, par_2, r_for, for_s, i_sq, seq_s, i_rg, rng_s, r_frz, frz_s, fin_rt, fin_nx, l_nil, bind_nm, bindR_s, step_nx, step_rt, initE, List.replicate, isBox, gLen, gInt, gMulI, gMod, gFdiv, gAdd, gSub, gCmpI, ix_l, ix_t, ix_k, ix_s, ix_z, gIsN, isNon, sq_l, sq_t, sq_k, cleanD, noBox, noBoxs, hrow, s1, s2, s3, s4, hd1, hd2, r1, r2, he, h1, h2, g1, g2, u1, u2, a30, a31, e30, e31, gEq_int, gMulT, at0, at1, at2, L, N0, N1, y1, y2, y3]
  · have L := link21 v1 v2
    have N0 := need20 v1 v2
    have N1 := need21 v1 v2
    have y1 := like (.tup [.tup [.tup [.str "x", .int v2], .tup [.str "y", .int 0], .tup [.str "z", .int 0]], .tup []]) (by simp [likeOk])
    have y2 := like (.tup [.int 0, .int 1]) (by simp [likeOk])
    have y3 := like (.tup [.int 1]) (by simp [likeOk])
    simp only [prt, Wn] at L N0 N1
    simp [i_zp, zip_s, zipQ_s, i_en, en_s, enQ_s, r_put, put_s, r_kg2, kg2_s, i_lc, lcI_s, r_seq, r_seq_nx, r_seq_rt, r_seq_bk, r_seq_ct, r_nil, r_if, r_if_t, r_if_f, r_asg, r_asg_v, r_arg, r_c, r_var, r_var_0, r_var_s, r_bv, r_bv_s, v_c, v_bv, v_var, v_var_0, g1_s, g2_s, r_op1, r_op2, v_op1, v_op2, va_nil, va_cons, consR_s, gN_s, on1_s, r_call, v_call, fn_s, r_fn, v_fn, ow_nil, ow_cons, ownC_s, disp_s, r_tup, r_ktup, r_lst, v_tup, v_ktup, v_lst, t_vl, bl_s, t_nt, not_s, t_an, t_or, and_t, and_f, or_t, or_f, t_tr, tru_s, r_ife, ife_t, ife_f, r_app, app_s, r_aug, aug_s, r_ret, ret_v, ret_r, retB_s, r_par, a_nl, a_cn, cR_s, par_2, r_for, for_s, i_sq, seq_s, i_rg, rng_s, r_frz, frz_s, fin_rt, fin_nx, l_nil, bind_nm, bindR_s, step_nx, step_rt, initE, List.replicate, isBox, gLen, gInt, gMulI, gMod, gFdiv, gAdd, gSub, gCmpI, ix_l, ix_t, ix_k, ix_s, ix_z, gIsN, isNon, sq_l, sq_t, sq_k, cleanD, noBox, noBoxs, hrow, s1, s2, s3, s4, hd1, hd2, r1, r2, he, h1, h2, g1, g2, u1, u2, a30, a31, e30, e31, gEq_int, gMulT, at0, at1, at2, L, N0, N1, y1, y2, y3]
end K40
set_option Elab.async false
set_option linter.all false
set_option maxRecDepth 100000
namespace K40
open PySem PySem.Spec PyProof.Rows L2 Pv
theorem ret_bl {K : PySem.W.Frag} {H H' : Hp} {b : Bool} {v : V} (h : RetOk K H (0, .bl b) v H') : v = .bl b := by
  obtain ⟨G, F, _, _, r, _⟩ := h
  exact r.bl
theorem all_mk {l : PySem.W.OpenLaw} {w : World} {K : PySem.W.Frag} {h : Heap} {mg : Str → Option Value} {fa : Addr} (X : K.In h) (G : h.Ns mainGlobals mg) (hfa : mg "law" = some (.ref fa))
    {f0 : Addr} {od0 an0 : Option Addr} {sl0 : Array (Option Value)} {oc0 kV0 dc0 pm0 cd0 ct0 : Value}
    {f1 : Addr} {od1 an1 : Option Addr} {sl1 : Array (Option Value)} {oc1 kV1 dc1 pm1 cd1 ct1 : Value}
    {f2 : Addr} {od2 an2 : Option Addr} {sl2 : Array (Option Value)} {oc2 kV2 dc2 pm2 cd2 ct2 : Value}
    {f3 : Addr} {od3 an3 : Option Addr} {sl3 : Array (Option Value)} {oc3 kV3 dc3 pm3 cd3 ct3 : Value}
    {f4 : Addr} {od4 an4 : Option Addr} {sl4 : Array (Option Value)} {oc4 kV4 dc4 pm4 cd4 ct4 : Value}
    {f5 : Addr} {od5 an5 : Option Addr} {sl5 : Array (Option Value)} {oc5 kV5 dc5 pm5 cd5 ct5 : Value}
    {f6 : Addr} {od6 an6 : Option Addr} {sl6 : Array (Option Value)} {oc6 kV6 dc6 pm6 cd6 ct6 : Value}
    {f7 : Addr} {od7 an7 : Option Addr} {sl7 : Array (Option Value)} {oc7 kV7 dc7 pm7 cd7 ct7 : Value}
    {f8 : Addr} {od8 an8 : Option Addr} {sl8 : Array (Option Value)} {oc8 kV8 dc8 pm8 cd8 ct8 : Value}
    {f9 : Addr} {od9 an9 : Option Addr} {sl9 : Array (Option Value)} {oc9 kV9 dc9 pm9 cd9 ct9 : Value}
    {f10 : Addr} {od10 an10 : Option Addr} {sl10 : Array (Option Value)} {oc10 kV10 dc10 pm10 cd10 ct10 : Value}
    {f11 : Addr} {od11 an11 : Option Addr} {sl11 : Array (Option Value)} {oc11 kV11 dc11 pm11 cd11 ct11 : Value}
    {f12 : Addr} {od12 an12 : Option Addr} {sl12 : Array (Option Value)} {oc12 kV12 dc12 pm12 cd12 ct12 : Value}
    {f13 : Addr} {od13 an13 : Option Addr} {sl13 : Array (Option Value)} {oc13 kV13 dc13 pm13 cd13 ct13 : Value}
    {f14 : Addr} {od14 an14 : Option Addr} {sl14 : Array (Option Value)} {oc14 kV14 dc14 pm14 cd14 ct14 : Value}
    {f15 : Addr} {od15 an15 : Option Addr} {sl15 : Array (Option Value)} {oc15 kV15 dc15 pm15 cd15 ct15 : Value}
    {f16 : Addr} {od16 an16 : Option Addr} {sl16 : Array (Option Value)} {oc16 kV16 dc16 pm16 cd16 ct16 : Value}
    {f17 : Addr} {od17 an17 : Option Addr} {sl17 : Array (Option Value)} {oc17 kV17 dc17 pm17 cd17 ct17 : Value}
    {d_SHORT : Addr} {n_SHORT : Nat} {h_SHORT_0 : Int} {t_SHORT_0 u_SHORT_0 : Tok} {h_SHORT_1 : Int} {t_SHORT_1 u_SHORT_1 : Tok}
    {d_LONG : Addr} {n_LONG : Nat} {h_LONG_0 : Int} {t_LONG_0 u_LONG_0 : Tok} {h_LONG_1 : Int} {t_LONG_1 u_LONG_1 : Tok}
    {t_NEAR : Tok}
    (a0 : PySem.W.nsIn K mainGlobals "_law_mixed" = some (some (.ref f0))) (l0 : K.lookup f0 = some ⟨oc0, od0, .func (PySem.W.fnOf "_law_mixed" "_law_mixed" (defArgs s_law_mixed) (defBody s_law_mixed) (defScope s_law_mixed) .none kV0 dc0 pm0 an0 cd0 ct0), sl0⟩) (c0 : PySem.W.codeIn K cd0 "_law_mixed" = true) (k0 : PySem.W.keepIn K (.ref f0) = true)
    (a1 : PySem.W.nsIn K mainGlobals "_law_row" = some (some (.ref f1))) (l1 : K.lookup f1 = some ⟨oc1, od1, .func (PySem.W.fnOf "_law_row" "_law_row" (defArgs s_law_row) (defBody s_law_row) (defScope s_law_row) .none kV1 dc1 pm1 an1 cd1 ct1), sl1⟩) (c1 : PySem.W.codeIn K cd1 "_law_row" = true) (k1 : PySem.W.keepIn K (.ref f1) = true)
    (a2 : PySem.W.nsIn K mainGlobals "_law_deeds" = some (some (.ref f2))) (l2 : K.lookup f2 = some ⟨oc2, od2, .func (PySem.W.fnOf "_law_deeds" "_law_deeds" (defArgs s_law_deeds) (defBody s_law_deeds) (defScope s_law_deeds) .none kV2 dc2 pm2 an2 cd2 ct2), sl2⟩) (c2 : PySem.W.codeIn K cd2 "_law_deeds" = true) (k2 : PySem.W.keepIn K (.ref f2) = true)
    (a3 : PySem.W.nsIn K mainGlobals "_law_is_int" = some (some (.ref f3))) (l3 : K.lookup f3 = some ⟨oc3, od3, .func (PySem.W.fnOf "_law_is_int" "_law_is_int" (defArgs s_law_is_int) (defBody s_law_is_int) (defScope s_law_is_int) .none kV3 dc3 pm3 an3 cd3 ct3), sl3⟩) (c3 : PySem.W.codeIn K cd3 "_law_is_int" = true) (k3 : PySem.W.keepIn K (.ref f3) = true)
    (a4 : PySem.W.nsIn K mainGlobals "_law_like" = some (some (.ref f4))) (l4 : K.lookup f4 = some ⟨oc4, od4, .func (PySem.W.fnOf "_law_like" "_law_like" (defArgs s_law_like) (defBody s_law_like) (defScope s_law_like) .none kV4 dc4 pm4 an4 cd4 ct4), sl4⟩) (c4 : PySem.W.codeIn K cd4 "_law_like" = true) (k4 : PySem.W.keepIn K (.ref f4) = true)
    (a5 : PySem.W.nsIn K mainGlobals "needed_parts" = some (some (.ref f5))) (l5 : K.lookup f5 = some ⟨oc5, od5, .func (PySem.W.fnOf "needed_parts" "needed_parts" (defArgs s_needed_parts) (defBody s_needed_parts) (defScope s_needed_parts) .none kV5 dc5 pm5 an5 cd5 ct5), sl5⟩) (c5 : PySem.W.codeIn K cd5 "needed_parts" = true) (k5 : PySem.W.keepIn K (.ref f5) = true)
    (a6 : PySem.W.nsIn K mainGlobals "_law_choices" = some (some (.ref f6))) (l6 : K.lookup f6 = some ⟨oc6, od6, .func (PySem.W.fnOf "_law_choices" "_law_choices" (defArgs s_law_choices) (defBody s_law_choices) (defScope s_law_choices) .none kV6 dc6 pm6 an6 cd6 ct6), sl6⟩) (c6 : PySem.W.codeIn K cd6 "_law_choices" = true) (k6 : PySem.W.keepIn K (.ref f6) = true)
    (a7 : PySem.W.nsIn K mainGlobals "_law_places" = some (some (.ref f7))) (l7 : K.lookup f7 = some ⟨oc7, od7, .func (PySem.W.fnOf "_law_places" "_law_places" (defArgs s_law_places) (defBody s_law_places) (defScope s_law_places) .none kV7 dc7 pm7 an7 cd7 ct7), sl7⟩) (c7 : PySem.W.codeIn K cd7 "_law_places" = true) (k7 : PySem.W.keepIn K (.ref f7) = true)
    (a8 : PySem.W.nsIn K mainGlobals "_law_fits" = some (some (.ref f8))) (l8 : K.lookup f8 = some ⟨oc8, od8, .func (PySem.W.fnOf "_law_fits" "_law_fits" (defArgs s_law_fits) (defBody s_law_fits) (defScope s_law_fits) .none kV8 dc8 pm8 an8 cd8 ct8), sl8⟩) (c8 : PySem.W.codeIn K cd8 "_law_fits" = true) (k8 : PySem.W.keepIn K (.ref f8) = true)
    (a9 : PySem.W.nsIn K mainGlobals "_law_least" = some (some (.ref f9))) (l9 : K.lookup f9 = some ⟨oc9, od9, .func (PySem.W.fnOf "_law_least" "_law_least" (defArgs s_law_least) (defBody s_law_least) (defScope s_law_least) .none kV9 dc9 pm9 an9 cd9 ct9), sl9⟩) (c9 : PySem.W.codeIn K cd9 "_law_least" = true) (k9 : PySem.W.keepIn K (.ref f9) = true)
    (a10 : PySem.W.nsIn K mainGlobals "marks_of" = some (some (.ref f10))) (l10 : K.lookup f10 = some ⟨oc10, od10, .func (PySem.W.fnOf "marks_of" "marks_of" (defArgs s_marks_of) (defBody s_marks_of) (defScope s_marks_of) .none kV10 dc10 pm10 an10 cd10 ct10), sl10⟩) (c10 : PySem.W.codeIn K cd10 "marks_of" = true) (k10 : PySem.W.keepIn K (.ref f10) = true)
    (a11 : PySem.W.nsIn K mainGlobals "places_of" = some (some (.ref f11))) (l11 : K.lookup f11 = some ⟨oc11, od11, .func (PySem.W.fnOf "places_of" "places_of" (defArgs s_places_of) (defBody s_places_of) (defScope s_places_of) .none kV11 dc11 pm11 an11 cd11 ct11), sl11⟩) (c11 : PySem.W.codeIn K cd11 "places_of" = true) (k11 : PySem.W.keepIn K (.ref f11) = true)
    (a12 : PySem.W.nsIn K mainGlobals "far_ones" = some (some (.ref f12))) (l12 : K.lookup f12 = some ⟨oc12, od12, .func (PySem.W.fnOf "far_ones" "far_ones" (defArgs s_far_ones) (defBody s_far_ones) (defScope s_far_ones) .none kV12 dc12 pm12 an12 cd12 ct12), sl12⟩) (c12 : PySem.W.codeIn K cd12 "far_ones" = true) (k12 : PySem.W.keepIn K (.ref f12) = true)
    (a13 : PySem.W.nsIn K mainGlobals "least_sizes" = some (some (.ref f13))) (l13 : K.lookup f13 = some ⟨oc13, od13, .func (PySem.W.fnOf "least_sizes" "least_sizes" (defArgs s_least_sizes) (defBody s_least_sizes) (defScope s_least_sizes) .none kV13 dc13 pm13 an13 cd13 ct13), sl13⟩) (c13 : PySem.W.codeIn K cd13 "least_sizes" = true) (k13 : PySem.W.keepIn K (.ref f13) = true)
    (a14 : PySem.W.nsIn K mainGlobals "_law_right" = some (some (.ref f14))) (l14 : K.lookup f14 = some ⟨oc14, od14, .func (PySem.W.fnOf "_law_right" "_law_right" (defArgs s_law_right) (defBody s_law_right) (defScope s_law_right) .none kV14 dc14 pm14 an14 cd14 ct14), sl14⟩) (c14 : PySem.W.codeIn K cd14 "_law_right" = true) (k14 : PySem.W.keepIn K (.ref f14) = true)
    (a15 : PySem.W.nsIn K mainGlobals "_law_edges" = some (some (.ref f15))) (l15 : K.lookup f15 = some ⟨oc15, od15, .func (PySem.W.fnOf "_law_edges" "_law_edges" (defArgs s_law_edges) (defBody s_law_edges) (defScope s_law_edges) .none kV15 dc15 pm15 an15 cd15 ct15), sl15⟩) (c15 : PySem.W.codeIn K cd15 "_law_edges" = true) (k15 : PySem.W.keepIn K (.ref f15) = true)
    (a16 : PySem.W.nsIn K mainGlobals "linked" = some (some (.ref f16))) (l16 : K.lookup f16 = some ⟨oc16, od16, .func (PySem.W.fnOf "linked" "linked" (defArgs s_linked) (defBody s_linked) (defScope s_linked) .none kV16 dc16 pm16 an16 cd16 ct16), sl16⟩) (c16 : PySem.W.codeIn K cd16 "linked" = true) (k16 : PySem.W.keepIn K (.ref f16) = true)
    (a17 : PySem.W.nsIn K mainGlobals "law" = some (some (.ref f17))) (l17 : K.lookup f17 = some ⟨oc17, od17, .func (PySem.W.fnOf "law" "law" (defArgs s_law) (defBody s_law) (defScope s_law) .none kV17 dc17 pm17 an17 cd17 ct17), sl17⟩) (c17 : PySem.W.codeIn K cd17 "law" = true) (k17 : PySem.W.keepIn K (.ref f17) = true)
    (z_abs : PySem.W.nsIn K mainGlobals "abs" = some none)
    (z_all : PySem.W.nsIn K mainGlobals "all" = some none)
    (z_bool : PySem.W.nsIn K mainGlobals "bool" = some none)
    (z_enumerate : PySem.W.nsIn K mainGlobals "enumerate" = some none)
    (z_int : PySem.W.nsIn K mainGlobals "int" = some none)
    (z_isinstance : PySem.W.nsIn K mainGlobals "isinstance" = some none)
    (z_len : PySem.W.nsIn K mainGlobals "len" = some none)
    (z_min : PySem.W.nsIn K mainGlobals "min" = some none)
    (z_range : PySem.W.nsIn K mainGlobals "range" = some none)
    (z_sorted : PySem.W.nsIn K mainGlobals "sorted" = some none)
    (z_str : PySem.W.nsIn K mainGlobals "str" = some none)
    (z_sum : PySem.W.nsIn K mainGlobals "sum" = some none)
    (z_tuple : PySem.W.nsIn K mainGlobals "tuple" = some none)
    (z_zip : PySem.W.nsIn K mainGlobals "zip" = some none)
    (a_SHORT : PySem.W.nsIn K mainGlobals "SHORT" = some (some (.ref d_SHORT))) (l_SHORT : K.lookup d_SHORT = some ⟨.type "dict", none, .dict #[⟨h_SHORT_0, .str "go" t_SHORT_0, .int 2 u_SHORT_0⟩, ⟨h_SHORT_1, .str "if" t_SHORT_1, .int 3 u_SHORT_1⟩] n_SHORT, #[]⟩) (o_SHORT : (d_SHORT == sysModules) = false) (q_SHORT_0 : h_SHORT_0 = PyData.keyHash w.params "go") (q_SHORT_1 : h_SHORT_1 = PyData.keyHash w.params "if")
    (a_LONG : PySem.W.nsIn K mainGlobals "LONG" = some (some (.ref d_LONG))) (l_LONG : K.lookup d_LONG = some ⟨.type "dict", none, .dict #[⟨h_LONG_0, .str "go" t_LONG_0, .int 5 u_LONG_0⟩, ⟨h_LONG_1, .str "if" t_LONG_1, .int 6 u_LONG_1⟩] n_LONG, #[]⟩) (o_LONG : (d_LONG == sysModules) = false) (q_LONG_0 : h_LONG_0 = PyData.keyHash w.params "go") (q_LONG_1 : h_LONG_1 = PyData.keyHash w.params "if")
    (a_NEAR : PySem.W.nsIn K mainGlobals "NEAR" = some (some (.int 10 t_NEAR)))
    : ∃ fd : FuncData, (∀ (s : Shared) (v : Value), BindsTo s fd ⟨[v], []⟩ [("script", v)]) ∧ ∀ base : Heap, K.In base → base.Ns mainGlobals mg → FnOk l.prog w K mg base CX0 9 fa fd ["script"] (spD K m_law) := by
  have e := hfa.symm.trans (PySem.W.mg_of X G a17)
  cases e
  have F0 := fun_mk (st := s_law_mixed) l0 c0 k0
  have b0 := F0.binds (ps := ["script", "k"]) fun _ _ _ _ _ _ us hl => match us, hl with | [_, _], _ => rfl
  have F1 := fun_mk (st := s_law_row) l1 c1 k1
  have b1 := F1.binds (ps := ["script", "many"]) fun _ _ _ _ _ _ us hl => match us, hl with | [_, _], _ => rfl
  have F2 := fun_mk (st := s_law_deeds) l2 c2 k2
  have b2 := F2.binds (ps := ["row", "names"]) fun _ _ _ _ _ _ us hl => match us, hl with | [_, _], _ => rfl
  have F3 := fun_mk (st := s_law_is_int) l3 c3 k3
  have b3 := F3.binds (ps := ["value"]) fun _ _ _ _ _ _ us hl => match us, hl with | [_], _ => rfl
  have F4 := fun_mk (st := s_law_like) l4 c4 k4
  have b4 := F4.binds (ps := ["value", "due"]) fun _ _ _ _ _ _ us hl => match us, hl with | [_, _], _ => rfl
  have F5 := fun_mk (st := s_needed_parts) l5 c5 k5
  have b5 := F5.binds (ps := ["parts", "first"]) fun _ _ _ _ _ _ us hl => match us, hl with | [_, _], _ => rfl
  have F6 := fun_mk (st := s_law_choices) l6 c6 k6
  have b6 := F6.binds (ps := ["deeds"]) fun _ _ _ _ _ _ us hl => match us, hl with | [_], _ => rfl
  have F7 := fun_mk (st := s_law_places) l7 c7 k7
  have b7 := F7.binds (ps := ["sizes"]) fun _ _ _ _ _ _ us hl => match us, hl with | [_], _ => rfl
  have F8 := fun_mk (st := s_law_fits) l8 c8 k8
  have b8 := F8.binds (ps := ["deeds", "sizes"]) fun _ _ _ _ _ _ us hl => match us, hl with | [_, _], _ => rfl
  have F9 := fun_mk (st := s_law_least) l9 c9 k9
  have b9 := F9.binds (ps := ["deeds"]) fun _ _ _ _ _ _ us hl => match us, hl with | [_], _ => rfl
  have F10 := fun_mk (st := s_marks_of) l10 c10 k10
  have b10 := F10.binds (ps := ["row"]) fun _ _ _ _ _ _ us hl => match us, hl with | [_], _ => rfl
  have F11 := fun_mk (st := s_places_of) l11 c11 k11
  have b11 := F11.binds (ps := ["row", "sizes"]) fun _ _ _ _ _ _ us hl => match us, hl with | [_, _], _ => rfl
  have F12 := fun_mk (st := s_far_ones) l12 c12 k12
  have b12 := F12.binds (ps := ["row", "sizes", "marks"]) fun _ _ _ _ _ _ us hl => match us, hl with | [_, _, _], _ => rfl
  have F13 := fun_mk (st := s_least_sizes) l13 c13 k13
  have b13 := F13.binds (ps := ["row"]) fun _ _ _ _ _ _ us hl => match us, hl with | [_], _ => rfl
  have F14 := fun_mk (st := s_law_right) l14 c14 k14
  have b14 := F14.binds (ps := ["deeds"]) fun _ _ _ _ _ _ us hl => match us, hl with | [_], _ => rfl
  have F15 := fun_mk (st := s_law_edges) l15 c15 k15
  have b15 := F15.binds (ps := ["row"]) fun _ _ _ _ _ _ us hl => match us, hl with | [_], _ => rfl
  have F16 := fun_mk (st := s_linked) l16 c16 k16
  have b16 := F16.binds (ps := ["parts", "order"]) fun _ _ _ _ _ _ us hl => match us, hl with | [_, _], _ => rfl
  have F17 := fun_mk (st := s_law) l17 c17 k17
  have b17 := F17.binds (ps := ["script"]) fun _ _ _ _ _ _ us hl => match us, hl with | [_], _ => rfl
  have D_SHORT : KDG w K mg "SHORT" k_SHORT := KDG.mk' (PySem.W.mg_of X G a_SHORT) l_SHORT ⟨⟨_, _, rfl, q_SHORT_0⟩, ⟨⟨_, _, rfl, q_SHORT_1⟩, trivial⟩⟩ o_SHORT (.cons ⟨⟨_, rfl⟩, ⟨.int 2, ⟨_, rfl⟩, fun _ => rfl⟩⟩ (.cons ⟨⟨_, rfl⟩, ⟨.int 3, ⟨_, rfl⟩, fun _ => rfl⟩⟩ .nil))
  have D_LONG : KDG w K mg "LONG" k_LONG := KDG.mk' (PySem.W.mg_of X G a_LONG) l_LONG ⟨⟨_, _, rfl, q_LONG_0⟩, ⟨⟨_, _, rfl, q_LONG_1⟩, trivial⟩⟩ o_LONG (.cons ⟨⟨_, rfl⟩, ⟨.int 5, ⟨_, rfl⟩, fun _ => rfl⟩⟩ (.cons ⟨⟨_, rfl⟩, ⟨.int 6, ⟨_, rfl⟩, fun _ => rfl⟩⟩ .nil))
  have I_NEAR : ∃ t, mg "NEAR" = some (.int 10 t) := ⟨_, PySem.W.mg_of X G a_NEAR⟩
  have B : MG mg := ⟨PySem.W.mg_none_of X G z_abs, PySem.W.mg_none_of X G z_all, PySem.W.mg_none_of X G z_bool, PySem.W.mg_none_of X G z_enumerate, PySem.W.mg_none_of X G z_int, PySem.W.mg_none_of X G z_isinstance, PySem.W.mg_none_of X G z_len, PySem.W.mg_none_of X G z_min, PySem.W.mg_none_of X G z_range, PySem.W.mg_none_of X G z_sorted, PySem.W.mg_none_of X G z_str, PySem.W.mg_none_of X G z_sum, PySem.W.mg_none_of X G z_tuple, PySem.W.mg_none_of X G z_zip⟩
  refine ⟨PySem.W.fnOf "law" "law" (defArgs s_law) (defBody s_law) (defScope s_law) .none kV17 dc17 pm17 an17 cd17 ct17, fun s v => .of_eq rfl, fun base _ _ => ?_⟩
  have G_law_mixed : FnG l.prog w K mg base 1 "_law_mixed" m_law_mixed [] := FnG.mk' (n := 6) (j := 2) (ok_law_mixed F0 B ) (PySem.W.mg_of X G a0) k0 b0
  have G_law_row : FnG l.prog w K mg base 2 "_law_row" m_law_row [] := FnG.mk' (n := 5) (j := 2) (ok_law_row F1 B G_law_mixed) (PySem.W.mg_of X G a1) k1 b1
  have G_law_deeds : FnG l.prog w K mg base 1 "_law_deeds" m_law_deeds [] := FnG.mk' (n := 7) (j := 2) (ok_law_deeds F2 B ) (PySem.W.mg_of X G a2) k2 b2
  have G_law_is_int : FnG l.prog w K mg base 1 "_law_is_int" m_law_is_int [] := FnG.mk' (n := 1) (j := 1) (ok_law_is_int F3 B ) (PySem.W.mg_of X G a3) k3 b3
  have G_law_like : FnG l.prog w K mg base 7 "_law_like" m_law_like [] := FnG.mk' (n := 3) (j := 2) (okr_law_like F4 B G_law_is_int (PySem.W.mg_of X G a4) b4 6) (PySem.W.mg_of X G a4) k4 b4
  have G_needed_parts : FnG l.prog w K mg base 1 "needed_parts" m_needed_parts [] := FnG.mk' (n := 8) (j := 2) (ok_needed_parts F5 B ) (PySem.W.mg_of X G a5) k5 b5
  have G_law_choices : FnG l.prog w K mg base 1 "_law_choices" m_law_choices [] := FnG.mk' (n := 7) (j := 1) (ok_law_choices F6 B ) (PySem.W.mg_of X G a6) k6 b6
  have G_law_places : FnG l.prog w K mg base 1 "_law_places" m_law_places [] := FnG.mk' (n := 4) (j := 1) (ok_law_places F7 B ) (PySem.W.mg_of X G a7) k7 b7
  have G_law_fits : FnG l.prog w K mg base 2 "_law_fits" m_law_fits [] := FnG.mk' (n := 5) (j := 2) (ok_law_fits F8 B G_law_places) (PySem.W.mg_of X G a8) k8 b8
  have G_law_least : FnG l.prog w K mg base 3 "_law_least" m_law_least [] := FnG.mk' (n := 4) (j := 1) (ok_law_least F9 B G_law_choices G_law_fits) (PySem.W.mg_of X G a9) k9 b9
  have G_marks_of : FnG l.prog w K mg base 1 "marks_of" m_marks_of [] := FnG.mk' (n := 4) (j := 1) (ok_marks_of F10 B ) (PySem.W.mg_of X G a10) k10 b10
  have G_places_of : FnG l.prog w K mg base 1 "places_of" m_places_of [] := FnG.mk' (n := 6) (j := 2) (ok_places_of F11 B ) (PySem.W.mg_of X G a11) k11 b11
  have G_far_ones : FnG l.prog w K mg base 2 "far_ones" m_far_ones [] := FnG.mk' (n := 7) (j := 3) (ok_far_ones F12 B G_places_of D_SHORT I_NEAR) (PySem.W.mg_of X G a12) k12 b12
  have G_least_sizes : FnG l.prog w K mg base 3 "least_sizes" m_least_sizes [] := FnG.mk' (n := 6) (j := 1) (ok_least_sizes F13 B G_marks_of G_far_ones D_SHORT D_LONG) (PySem.W.mg_of X G a13) k13 b13
  have G_law_right : FnG l.prog w K mg base 8 "_law_right" m_law_right [] := FnG.mk' (n := 4) (j := 1) (ok_law_right F14 B G_law_least G_law_choices G_law_fits G_law_like G_least_sizes G_places_of G_law_places) (PySem.W.mg_of X G a14) k14 b14
  have G_law_edges : FnG l.prog w K mg base 8 "_law_edges" m_law_edges [] := FnG.mk' (n := 12) (j := 1) (ok_law_edges F15 B G_law_like G_least_sizes G_law_least) (PySem.W.mg_of X G a15) k15 b15
  have G_linked : FnG l.prog w K mg base 1 "linked" m_linked [] := FnG.mk' (n := 12) (j := 2) (ok_linked F16 B ) (PySem.W.mg_of X G a16) k16 b16
  exact (ok_law F17 B G_law_row G_law_deeds G_law_like G_needed_parts G_law_right G_law_edges G_least_sizes G_linked G_law_least)
end K40
open PySem PySem.W PyProof.Rows
set_option maxHeartbeats 0 in
theorem PySem.Challenge.cw_tonguesalike_k40_whole_least_sizes_holds : PySem.Challenge.rw_tonguesalike_k40_whole_least_sizes.Holds := by
  w_on; o_law; k_head; (case hw => w_witness2)
  k_fill
  refine L2.walk_of (l := PySem.Challenge.rw_tonguesalike_k40_whole_least_sizes) (n := 63) (k := 9) (x := "script") (CX := fun _ => L2.CX0) (sp := fun w => Pv.spD _ K40.m_law) rfl (by decide) rfl ⟨rfl, by decide, by decide⟩ (fun w h Y => PySem.W.kIn_of Y) ?F (fun _ _ a ns hl _ hS => ⟨[.scr ns], _, ⟨_, _, rfl, ⟨a, rfl, hS⟩, rfl⟩, K40.law ns, fun v H' h => K40.ret_bl h⟩) (fun _ _ _ _ _ h => h)
  case F =>
    intro w mg fa h KX G hmg
    refine' K40.all_mk KX G hmg ?a0 ?l0 ?c0 ?k0 ?a1 ?l1 ?c1 ?k1 ?a2 ?l2 ?c2 ?k2 ?a3 ?l3 ?c3 ?k3 ?a4 ?l4 ?c4 ?k4 ?a5 ?l5 ?c5 ?k5 ?a6 ?l6 ?c6 ?k6 ?a7 ?l7 ?c7 ?k7 ?a8 ?l8 ?c8 ?k8 ?a9 ?l9 ?c9 ?k9 ?a10 ?l10 ?c10 ?k10 ?a11 ?l11 ?c11 ?k11 ?a12 ?l12 ?c12 ?k12 ?a13 ?l13 ?c13 ?k13 ?a14 ?l14 ?c14 ?k14 ?a15 ?l15 ?c15 ?k15 ?a16 ?l16 ?c16 ?k16 ?a17 ?l17 ?c17 ?k17 ?z_abs ?z_all ?z_bool ?z_enumerate ?z_int ?z_isinstance ?z_len ?z_min ?z_range ?z_sorted ?z_str ?z_sum ?z_tuple ?z_zip ?a_SHORT ?l_SHORT ?o_SHORT ?q_SHORT_0 ?q_SHORT_1 ?a_LONG ?l_LONG ?o_LONG ?q_LONG_0 ?q_LONG_1 ?a_NEAR
    (case a0 => k_is); (case l0 => k_is); (case c0 => k_is); (case k0 => k_is); (case a1 => k_is); (case l1 => k_is); (case c1 => k_is); (case k1 => k_is); (case a2 => k_is); (case l2 => k_is); (case c2 => k_is); (case k2 => k_is); (case a3 => k_is); (case l3 => k_is); (case c3 => k_is); (case k3 => k_is); (case a4 => k_is); (case l4 => k_is); (case c4 => k_is); (case k4 => k_is); (case a5 => k_is); (case l5 => k_is); (case c5 => k_is); (case k5 => k_is); (case a6 => k_is); (case l6 => k_is); (case c6 => k_is); (case k6 => k_is); (case a7 => k_is); (case l7 => k_is); (case c7 => k_is); (case k7 => k_is); (case a8 => k_is); (case l8 => k_is); (case c8 => k_is); (case k8 => k_is); (case a9 => k_is); (case l9 => k_is); (case c9 => k_is); (case k9 => k_is); (case a10 => k_is); (case l10 => k_is); (case c10 => k_is); (case k10 => k_is); (case a11 => k_is); (case l11 => k_is); (case c11 => k_is); (case k11 => k_is); (case a12 => k_is); (case l12 => k_is); (case c12 => k_is); (case k12 => k_is); (case a13 => k_is); (case l13 => k_is); (case c13 => k_is); (case k13 => k_is); (case a14 => k_is); (case l14 => k_is); (case c14 => k_is); (case k14 => k_is); (case a15 => k_is); (case l15 => k_is); (case c15 => k_is); (case k15 => k_is); (case a16 => k_is); (case l16 => k_is); (case c16 => k_is); (case k16 => k_is); (case a17 => k_is); (case l17 => k_is); (case c17 => k_is); (case k17 => k_is); (case z_abs => k_is); (case z_all => k_is); (case z_bool => k_is); (case z_enumerate => k_is); (case z_int => k_is); (case z_isinstance => k_is); (case z_len => k_is); (case z_min => k_is); (case z_range => k_is); (case z_sorted => k_is); (case z_str => k_is); (case z_sum => k_is); (case z_tuple => k_is); (case z_zip => k_is); (case a_SHORT => k_is); (case l_SHORT => k_is); (case a_LONG => k_is); (case l_LONG => k_is); (case a_NEAR => k_is)
    all_goals first | rfl | decide
