import PyProof.Rows.All
import Wide.All
import OpenK.AllK
import Wide.FinOn
import PySem.Challenge.RW_tonguesalike_k35_whole_swept_and_given
import HandS.ForMost
import HandS.Walk
import HandS.TupAny
import HandS.Deep
import HandS.Flow
import HandS.IsInst
import KE.GoesEnum
import KE.GoesMore
import HandS.Zip
import HandS.Strs
import HandS.SetKeys
import HandS.TupMul
import HandS.More
import KE.KTupSum
import KE.SortData
import KE.DataFind
import HandS.DictComp
import KE.KDictZip
import PyProof.ListNew
import HandS.Defaults
import HandS.SortKw
import KE.DataMinMax
set_option Elab.async false
set_option linter.all false
set_option maxRecDepth 100000
/-! P1: data, how values and heaps hold them, the state of a body -/
namespace Pv
open PySem PySem.Spec PyProof.Rows L2
/-- data -/
inductive D where
  | non | bl (b : Bool) | int (i : Int) | str (s : Str) | tup (xs : List D) | lst (xs : List D) | dct (t : Bool) (kvs : List (List Key × D)) | scr (ns : List Int) | ktp (xs : List D)
/-- the object of a dict: its keys are ints and texts (t false), or tuples of such -/
def hoD (t : Bool) (xs : List (List Key × V)) : HO := match t with
  | true => .dT xs
  | false => .dK (xs.map fun p => (p.1.headD (.inl 0), p.2))
def keysOk (t : Bool) (xs : List (List Key × V)) : Prop := t = false → ∀ p ∈ xs, ∃ k, p.1 = [k]
/-- a tuple with no dict of its own: one of the module's, or one whose object is known -/
def FT (od : Obj) : Prop := od.cls = .type "tuple" ∧ od.dict = none
def KTup (K : PySem.W.Frag) (G : Hp) (a : Addr) (xs : List V) : Prop := (∃ (o : Obj) (its : Array Value) (n : Nat), K.lookup a = some o ∧ o.cls = .type "tuple" ∧ o.dict = none ∧ o.data = .seq its n ∧ its.size ≤ sizeLine ∧ Vals xs its.toList) ∨ ∃ od, FT od ∧ G a = some (.frz od (.tup xs))
theorem KTup.mono {K : PySem.W.Frag} {G G' : Hp} {a : Addr} {xs : List V} (e : Same G G') (h : KTup K G a xs) : KTup K G' a xs := h.elim .inl fun ⟨od, h1, h2⟩ => .inr ⟨od, h1, e _ _ h2⟩
theorem KTup.sq {K : PySem.W.Frag} {G : Hp} {a : Addr} {xs : List V} (h : KTup K G a xs) : SqT K G a xs := h.elim (fun ⟨o, its, n, h1, h2, _, h3⟩ => .inr ⟨o, its, n, h1, h2, h3⟩) fun ⟨od, h1, h2⟩ => .inl (.inr ⟨od, h2⟩)
mutual
def RepF (K : PySem.W.Frag) (G : Hp) : D → V → Prop
  | .non, v => v = .non
  | .bl b, v => v = .bl b
  | .int i, v => v = .int i
  | .str s, v => v = .str s
  | .tup ds, v => ∃ a xs, v = .ref a ∧ G a = some (.tup xs) ∧ RepFs K G ds xs
  | .lst ds, v => ∃ a xs, v = .ref a ∧ G a = some (.lst xs) ∧ RepFs K G ds xs
  | .dct t ds, v => ∃ a xs, v = .ref a ∧ Rd G a (hoD t xs) ∧ keysOk t xs ∧ RepFk K G ds xs
  | .scr ns, v => ∃ a, v = .ref a ∧ SqL K G a (ns.map V.int)
  | .ktp ds, v => ∃ a xs, v = .ref a ∧ KTup K G a xs ∧ RepFs K G ds xs
def RepFs (K : PySem.W.Frag) (G : Hp) : List D → List V → Prop
  | [], xs => xs = []
  | d :: ds, xs => ∃ x r, xs = x :: r ∧ RepF K G d x ∧ RepFs K G ds r
def RepFk (K : PySem.W.Frag) (G : Hp) : List (List Key × D) → List (List Key × V) → Prop
  | [], xs => xs = []
  | (k, d) :: ds, xs => ∃ x r, xs = (k, x) :: r ∧ RepF K G d x ∧ RepFk K G ds r
end
/-- owned lists and dicts to the depth k, at the addresses F -/
def ROs (R : D → V → List Addr → Prop) : List D → List V → List Addr → Prop
  | [], xs, F => xs = [] ∧ F = []
  | d :: ds, xs, F => ∃ x r F1 F2, xs = x :: r ∧ F = F1 ++ F2 ∧ R d x F1 ∧ ROs R ds r F2
def ROk (R : D → V → List Addr → Prop) : List (List Key × D) → List (List Key × V) → List Addr → Prop
  | [], xs, F => xs = [] ∧ F = []
  | (k, d) :: ds, xs, F => ∃ x r F1 F2, xs = (k, x) :: r ∧ F = F1 ++ F2 ∧ R d x F1 ∧ ROk R ds r F2
def RO (K : PySem.W.Frag) (G H : Hp) : Nat → D → V → List Addr → Prop
  | 0, d, v, F => RepF K G d v ∧ F = []
  | k + 1, .lst ds, v, F => ∃ a xs F', v = .ref a ∧ H a = some (.lst xs) ∧ F = a :: F' ∧ ROs (RO K G H k) ds xs F'
  | k + 1, .dct t ds, v, F => ∃ a xs F', v = .ref a ∧ H a = some (hoD t xs) ∧ keysOk t xs ∧ F = a :: F' ∧ ROk (RO K G H k) ds xs F'
  | _ + 1, d, v, F => RepF K G d v ∧ F = []
section
variable {K : PySem.W.Frag} {G G' H H' : Hp}
theorem same_rd (e : Same G G') {a : Addr} {u : HO} (h : Rd G a u) : Rd G' a u := by
  rcases h with h | ⟨o, h⟩
  · exact .inl (e a _ h)
  · exact .inr ⟨o, e a _ h⟩
theorem same_t (e : Same G G') {a : Addr} {xs : List V} (h : SqT K G a xs) : SqT K G' a xs := by
  rcases h with h | h
  · exact .inl (same_rd e h)
  · exact .inr h
theorem same_l (e : Same G G') {a : Addr} {xs : List V} (h : SqL K G a xs) : SqL K G' a xs := by
  rcases h with h | h
  · exact .inl (same_rd e h)
  · exact .inr h
mutual
theorem RepF.mono (e : Same G G') : ∀ (d : D) (v : V), RepF K G d v → RepF K G' d v
  | .non, _, h => h
  | .bl _, _, h => h
  | .int _, _, h => h
  | .str _, _, h => h
  | .tup ds, _, ⟨a, xs, h1, h2, h3⟩ => ⟨a, xs, h1, e _ _ h2, RepFs.mono e ds xs h3⟩
  | .ktp ds, _, ⟨a, xs, h1, h2, h3⟩ => ⟨a, xs, h1, h2.mono e, RepFs.mono e ds xs h3⟩
  | .lst ds, _, ⟨a, xs, h1, h2, h3⟩ => ⟨a, xs, h1, e _ _ h2, RepFs.mono e ds xs h3⟩
  | .dct t ds, _, ⟨a, xs, h1, h2, h4, h3⟩ => ⟨a, xs, h1, same_rd e h2, h4, RepFk.mono e ds xs h3⟩
  | .scr ns, _, ⟨a, h1, h2⟩ => ⟨a, h1, same_l e h2⟩
theorem RepFs.mono (e : Same G G') : ∀ (ds : List D) (xs : List V), RepFs K G ds xs → RepFs K G' ds xs
  | [], _, h => h
  | d :: ds, _, ⟨x, r, h1, h2, h3⟩ => ⟨x, r, h1, RepF.mono e d x h2, RepFs.mono e ds r h3⟩
theorem RepFk.mono (e : Same G G') : ∀ (ds : List (List Key × D)) (xs : List (List Key × V)), RepFk K G ds xs → RepFk K G' ds xs
  | [], _, h => h
  | (_, d) :: ds, _, ⟨x, r, h1, h2, h3⟩ => ⟨x, r, h1, RepF.mono e d x h2, RepFk.mono e ds r h3⟩
end
theorem ROs.imp {R R' : D → V → List Addr → Prop} : ∀ (ds : List D) (xs : List V) (F : List Addr), (∀ d v F1, (∀ a ∈ F1, a ∈ F) → R d v F1 → R' d v F1) → ROs R ds xs F → ROs R' ds xs F
  | [], _, _, _, h => h
  | d :: ds, _, _, f, ⟨x, r, F1, F2, h1, h2, h3, h4⟩ => ⟨x, r, F1, F2, h1, h2, f _ _ _ (fun a h => by rw [h2]; exact List.mem_append_left _ h) h3,
      ROs.imp ds r F2 (fun d v F3 h => f d v F3 fun a ha => by rw [h2]; exact List.mem_append_right _ (h a ha)) h4⟩
theorem ROk.imp {R R' : D → V → List Addr → Prop} : ∀ (ds : List (List Key × D)) (xs : List (List Key × V)) (F : List Addr), (∀ d v F1, (∀ a ∈ F1, a ∈ F) → R d v F1 → R' d v F1) → ROk R ds xs F → ROk R' ds xs F
  | [], _, _, _, h => h
  | (_, d) :: ds, _, _, f, ⟨x, r, F1, F2, h1, h2, h3, h4⟩ => ⟨x, r, F1, F2, h1, h2, f _ _ _ (fun a h => by rw [h2]; exact List.mem_append_left _ h) h3,
      ROk.imp ds r F2 (fun d v F3 h => f d v F3 fun a ha => by rw [h2]; exact List.mem_append_right _ (h a ha)) h4⟩
theorem RO.mono (e : Same G G') : ∀ (k : Nat) (d : D) (v : V) (F : List Addr), (∀ a ∈ F, H' a = H a) → RO K G H k d v F → RO K G' H' k d v F
  | 0, d, v, _, _, h => ⟨RepF.mono e d v h.1, h.2⟩
  | k + 1, .lst ds, _, F, f, ⟨a, xs, F', h1, h2, h3, h4⟩ => ⟨a, xs, F', h1, by rw [f a (by rw [h3]; exact List.mem_cons_self), h2], h3,
      ROs.imp ds xs F' (fun d v F1 s => RO.mono e k d v F1 fun b hb => f b (by rw [h3]; exact List.mem_cons_of_mem _ (s b hb))) h4⟩
  | k + 1, .dct t ds, _, F, f, ⟨a, xs, F', h1, h2, h5, h3, h4⟩ => ⟨a, xs, F', h1, by rw [f a (by rw [h3]; exact List.mem_cons_self), h2], h5, h3,
      ROk.imp ds xs F' (fun d v F1 s => RO.mono e k d v F1 fun b hb => f b (by rw [h3]; exact List.mem_cons_of_mem _ (s b hb))) h4⟩
  | k + 1, .non, v, _, _, h => h
  | k + 1, .bl _, v, _, _, h => h
  | k + 1, .int _, v, _, _, h => h
  | k + 1, .str _, v, _, _, h => h
  | k + 1, .tup ds, v, _, _, h => ⟨RepF.mono e (.tup ds) v h.1, h.2⟩
  | k + 1, .scr ns, v, _, _, h => ⟨RepF.mono e (.scr ns) v h.1, h.2⟩
  | k + 1, .ktp ds, v, _, _, h => ⟨RepF.mono e (.ktp ds) v h.1, h.2⟩
/-- read as frozen, in a heap that holds what is owned -/
theorem ROs.toF {R : D → V → List Addr → Prop} : ∀ (ds : List D) (xs : List V) (F : List Addr), (∀ d v F1, (∀ a ∈ F1, a ∈ F) → R d v F1 → RepF K G d v) → ROs R ds xs F → RepFs K G ds xs
  | [], _, _, _, h => h.1
  | d :: ds, _, _, f, ⟨x, r, F1, F2, h1, h2, h3, h4⟩ => ⟨x, r, h1, f _ _ _ (fun a h => by rw [h2]; exact List.mem_append_left _ h) h3,
      ROs.toF ds r F2 (fun d v F3 h => f d v F3 fun a ha => by rw [h2]; exact List.mem_append_right _ (h a ha)) h4⟩
theorem ROk.toF {R : D → V → List Addr → Prop} : ∀ (ds : List (List Key × D)) (xs : List (List Key × V)) (F : List Addr), (∀ d v F1, (∀ a ∈ F1, a ∈ F) → R d v F1 → RepF K G d v) → ROk R ds xs F → RepFk K G ds xs
  | [], _, _, _, h => h.1
  | (_, d) :: ds, _, _, f, ⟨x, r, F1, F2, h1, h2, h3, h4⟩ => ⟨x, r, h1, f _ _ _ (fun a h => by rw [h2]; exact List.mem_append_left _ h) h3,
      ROk.toF ds r F2 (fun d v F3 h => f d v F3 fun a ha => by rw [h2]; exact List.mem_append_right _ (h a ha)) h4⟩
theorem RO.toF (e : Same G G') : ∀ (k : Nat) (d : D) (v : V) (F : List Addr), (∀ a ∈ F, G' a = H a) → RO K G H k d v F → RepF K G' d v
  | 0, d, v, _, _, h => RepF.mono e d v h.1
  | k + 1, .lst ds, _, F, f, ⟨a, xs, F', h1, h2, h3, h4⟩ => ⟨a, xs, h1, (by rw [f a (by rw [h3]; exact List.mem_cons_self), h2]),
      ROs.toF ds xs F' (fun d v F1 s => RO.toF e k d v F1 fun b hb => f b (by rw [h3]; exact List.mem_cons_of_mem _ (s b hb))) h4⟩
  | k + 1, .dct t ds, _, F, f, ⟨a, xs, F', h1, h2, h5, h3, h4⟩ => ⟨a, xs, h1, .inl (by rw [f a (by rw [h3]; exact List.mem_cons_self), h2]), h5,
      ROk.toF ds xs F' (fun d v F1 s => RO.toF e k d v F1 fun b hb => f b (by rw [h3]; exact List.mem_cons_of_mem _ (s b hb))) h4⟩
  | k + 1, .non, v, _, _, h => h.1
  | k + 1, .bl _, v, _, _, h => h.1
  | k + 1, .int _, v, _, _, h => h.1
  | k + 1, .str _, v, _, _, h => h.1
  | k + 1, .tup ds, v, _, _, h => RepF.mono e (.tup ds) v h.1
  | k + 1, .scr ns, v, _, _, h => RepF.mono e (.scr ns) v h.1
  | k + 1, .ktp ds, v, _, _, h => RepF.mono e (.ktp ds) v h.1
/-- a list or a dict stands at each owned address -/
def isOwn : HO → Prop
  | .lst _ => True
  | .dK _ => True
  | .dT _ => True
  | _ => False
theorem isOwn_hoD (t : Bool) (xs : List (List Key × V)) : isOwn (hoD t xs) := by cases t <;> trivial
theorem ROs.own {R : D → V → List Addr → Prop} {P : Addr → Prop} (f : ∀ d v F, R d v F → ∀ a ∈ F, P a) : ∀ (ds : List D) (xs : List V) (F : List Addr), ROs R ds xs F → ∀ a ∈ F, P a
  | [], _, _, h, a, ha => by rw [h.2] at ha; cases ha
  | d :: ds, _, _, ⟨x, r, F1, F2, h1, h2, h3, h4⟩, a, ha => by
    rw [h2] at ha
    rcases List.mem_append.mp ha with z | z
    · exact f _ _ _ h3 a z
    · exact ROs.own f ds r F2 h4 a z
theorem ROk.own {R : D → V → List Addr → Prop} {P : Addr → Prop} (f : ∀ d v F, R d v F → ∀ a ∈ F, P a) : ∀ (ds : List (List Key × D)) (xs : List (List Key × V)) (F : List Addr), ROk R ds xs F → ∀ a ∈ F, P a
  | [], _, _, h, a, ha => by rw [h.2] at ha; cases ha
  | (_, d) :: ds, _, _, ⟨x, r, F1, F2, h1, h2, h3, h4⟩, a, ha => by
    rw [h2] at ha
    rcases List.mem_append.mp ha with z | z
    · exact f _ _ _ h3 a z
    · exact ROk.own f ds r F2 h4 a z
theorem RO.own : ∀ (k : Nat) (d : D) (v : V) (F : List Addr), RO K G H k d v F → ∀ a ∈ F, ∃ o, H a = some o ∧ isOwn o
  | 0, d, v, _, h, a, ha => by rw [h.2] at ha; cases ha
  | k + 1, .lst ds, _, F, ⟨b, xs, F', h1, h2, h3, h4⟩, a, ha => by
    rw [h3] at ha
    rcases List.mem_cons.mp ha with rfl | z
    · exact ⟨_, h2, trivial⟩
    · exact ROs.own (fun d v F => RO.own k d v F) ds xs F' h4 a z
  | k + 1, .dct t ds, _, F, ⟨b, xs, F', h1, h2, h5, h3, h4⟩, a, ha => by
    rw [h3] at ha
    rcases List.mem_cons.mp ha with rfl | z
    · exact ⟨_, h2, isOwn_hoD t xs⟩
    · exact ROk.own (fun d v F => RO.own k d v F) ds xs F' h4 a z
  | k + 1, .non, v, _, h, a, ha => by rw [h.2] at ha; cases ha
  | k + 1, .bl _, v, _, h, a, ha => by rw [h.2] at ha; cases ha
  | k + 1, .int _, v, _, h, a, ha => by rw [h.2] at ha; cases ha
  | k + 1, .str _, v, _, h, a, ha => by rw [h.2] at ha; cases ha
  | k + 1, .tup ds, v, _, h, a, ha => by rw [h.2] at ha; cases ha
  | k + 1, .scr ns, v, _, h, a, ha => by rw [h.2] at ha; cases ha
  | k + 1, .ktp ds, v, _, h, a, ha => by rw [h.2] at ha; cases ha
end
/-! ### the state of a body -/
/-- data with the depth to which it is owned -/
abbrev W := Nat × D
abbrev Env := List (Option W)
/-- an argument: a value of its own, or what a slot holds -/
inductive Arg where
  | v (k : Nat) (d : D)
  | r (i : Nat)
def Arg.get (ρ : Env) : Arg → Option W
  | .v k d => some (k, d)
  | .r i => (ρ[i]?).join
def RSl (K : PySem.W.Frag) (G H : Hp) : L2.St → Env → List Addr → Prop
  | _, [], F => F = []
  | [], none :: ρ, F => RSl K G H [] ρ F
  | [], some _ :: _, _ => False
  | _ :: σ, none :: ρ, F => RSl K G H σ ρ F
  | s :: σ, some w :: ρ, F => ∃ v F1 F2, s = some v ∧ F = F1 ++ F2 ∧ RO K G H w.1 w.2 v F1 ∧ RSl K G H σ ρ F2
def RWs (K : PySem.W.Frag) (G H : Hp) (σ : L2.St) (ρ : Env) : List (V × Arg) → List Addr → Prop
  | [], F => F = []
  | (x, .v k d) :: ws, F => ∃ F1 F2, F = F1 ++ F2 ∧ RO K G H k d x F1 ∧ RWs K G H σ ρ ws F2
  | (x, .r i) :: ws, F => σ[i]? = some (some x) ∧ (∃ w, ρ[i]? = some (some w)) ∧ RWs K G H σ ρ ws F
structure Si (K : PySem.W.Frag) (G0 : Hp) (σ : L2.St) (ρ : Env) (ws : List (V × Arg)) (H G : Hp) (F1 F2 : List Addr) : Prop where
  ex0 : Same G0 G
  ex : Same G H
  sl : RSl K G H σ ρ F1
  wv : RWs K G H σ ρ ws F2
  nd : (F1 ++ F2).Nodup
  fr : ∀ a ∈ F1 ++ F2, G a = none
  tu : ∀ b o, H b = some o → ¬ isOwn o → G b = some o
  ln : σ.length = ρ.length
/-- the slots σ hold ρ, the values ws stand waiting, all that G0 holds is as it was -/
def SI (K : PySem.W.Frag) (G0 : Hp) (σ : L2.St) (ρ : Env) (ws : List (V × Arg)) (H : Hp) : Prop := ∃ G F1 F2, Si K G0 σ ρ ws H G F1 F2
section
variable {K : PySem.W.Frag} {G0 G G' H H' : Hp} {σ : L2.St} {ρ : Env} {ws : List (V × Arg)} {F F1 F2 : List Addr}
theorem RSl.mono (e : Same G G') : ∀ (σ : L2.St) (ρ : Env) (F : List Addr), (∀ a ∈ F, H' a = H a) → RSl K G H σ ρ F → RSl K G' H' σ ρ F
  | [], [], _, _, h => h
  | _ :: _, [], _, _, h => h
  | [], none :: ρ, F, f, h => RSl.mono e [] ρ F f h
  | [], some _ :: _, _, _, h => h
  | _ :: σ, none :: ρ, F, f, h => RSl.mono e σ ρ F f h
  | s :: σ, some w :: ρ, F, f, ⟨v, F1, F2, h1, h2, h3, h4⟩ => ⟨v, F1, F2, h1, h2, RO.mono e _ _ _ F1 (fun a ha => f a (by rw [h2]; exact List.mem_append_left _ ha)) h3,
      RSl.mono e σ ρ F2 (fun a ha => f a (by rw [h2]; exact List.mem_append_right _ ha)) h4⟩
theorem RWs.mono (e : Same G G') : ∀ (ws : List (V × Arg)) (F : List Addr), (∀ a ∈ F, H' a = H a) → RWs K G H σ ρ ws F → RWs K G' H' σ ρ ws F
  | [], _, _, h => h
  | (x, .v k d) :: ws, F, f, ⟨F1, F2, h2, h3, h4⟩ => ⟨F1, F2, h2, RO.mono e _ _ _ F1 (fun a ha => f a (by rw [h2]; exact List.mem_append_left _ ha)) h3,
      RWs.mono e ws F2 (fun a ha => f a (by rw [h2]; exact List.mem_append_right _ ha)) h4⟩
  | (x, .r i) :: ws, F, f, ⟨h1, h2, h3⟩ => ⟨h1, h2, RWs.mono e ws F f h3⟩
theorem RSl.own : ∀ (σ : L2.St) (ρ : Env) (F : List Addr), RSl K G H σ ρ F → ∀ a ∈ F, ∃ o, H a = some o ∧ isOwn o
  | [], [], F, h, a, ha => by rw [show F = [] from h] at ha; cases ha
  | _ :: _, [], F, h, a, ha => by rw [show F = [] from h] at ha; cases ha
  | [], none :: ρ, F, h, a, ha => RSl.own [] ρ F h a ha
  | [], some _ :: _, _, h, _, _ => h.elim
  | _ :: σ, none :: ρ, F, h, a, ha => RSl.own σ ρ F h a ha
  | s :: σ, some w :: ρ, F, ⟨v, F1, F2, h1, h2, h3, h4⟩, a, ha => by
    rw [h2] at ha
    rcases List.mem_append.mp ha with z | z
    · exact RO.own _ _ _ _ h3 a z
    · exact RSl.own σ ρ F2 h4 a z
theorem RWs.own : ∀ (ws : List (V × Arg)) (F : List Addr), RWs K G H σ ρ ws F → ∀ a ∈ F, ∃ o, H a = some o ∧ isOwn o
  | [], F, h, a, ha => by rw [show F = [] from h] at ha; cases ha
  | (x, .v k d) :: ws, F, ⟨F1, F2, h2, h3, h4⟩, a, ha => by
    rw [h2] at ha
    rcases List.mem_append.mp ha with z | z
    · exact RO.own _ _ _ _ h3 a z
    · exact RWs.own ws F2 h4 a z
  | (x, .r i) :: ws, F, ⟨h1, h2, h3⟩, a, ha => RWs.own ws F h3 a ha
theorem Si.own (I : Si K G0 σ ρ ws H G F1 F2) : ∀ a ∈ F1 ++ F2, ∃ o, H a = some o ∧ isOwn o := fun a ha => by
  rcases List.mem_append.mp ha with z | z
  · exact RSl.own _ _ _ I.sl a z
  · exact RWs.own _ _ I.wv a z
end
end Pv
set_option Elab.async false
set_option linter.all false
set_option maxRecDepth 100000
/-! P2: how the state is changed -/
namespace Pv
open PySem PySem.Spec PyProof.Rows L2
section
variable {K : PySem.W.Frag} {G0 G G' H H' : Hp} {σ : L2.St} {ρ : Env} {ws : List (V × Arg)} {F F1 F2 : List Addr}
/-- slot i, and the rest -/
theorem RSl.zoom : ∀ (σ : L2.St) (ρ : Env) (F : List Addr) (i : Nat), RSl K G H σ ρ F → i < ρ.length → i < σ.length →
    ∃ F1 Fi F2, F = F1 ++ Fi ++ F2 ∧ (∀ w, ρ[i]? = some (some w) → ∃ v, σ[i]? = some (some v) ∧ RO K G H w.1 w.2 v Fi) ∧ (ρ[i]? = some none → Fi = []) ∧
      ∀ (G' H' : Hp) (sv : Option V) (w' : Option W) (Fi' : List Addr), Same G G' → (∀ a ∈ F1 ++ F2, H' a = H a) →
        (∀ w, w' = some w → ∃ v, sv = some v ∧ RO K G' H' w.1 w.2 v Fi') → (w' = none → Fi' = []) → RSl K G' H' (σ.set i sv) (ρ.set i w') (F1 ++ Fi' ++ F2)
  | [], _, _, _, _, _, h => absurd h (Nat.not_lt_zero _)
  | _ :: _, [], _, _, _, h, _ => absurd h (Nat.not_lt_zero _)
  | s :: σ, none :: ρ, F, 0, h, _, _ => by
    refine ⟨[], [], F, rfl, (fun w e => by simp at e), (fun _ => rfl), fun G' H' sv w' Fi' e f g z => ?_⟩
    have hm := RSl.mono e σ ρ F (fun a ha => f a ha) h
    cases w' with
    | none =>
      have := z rfl
      subst this
      exact hm
    | some w =>
      obtain ⟨v, hv, hr⟩ := g w rfl
      exact ⟨v, Fi', F, hv, rfl, hr, hm⟩
  | s :: σ, some w :: ρ, F, 0, ⟨v, Fa, Fb, h1, h2, h3, h4⟩, _, _ => by
    subst h2
    refine ⟨[], Fa, Fb, rfl, (fun w' e => by simp at e; subst e; exact ⟨v, by rw [h1]; rfl, h3⟩), (fun e => by simp at e), fun G' H' sv w' Fi' e f g z => ?_⟩
    have hm := RSl.mono e σ ρ Fb (fun a ha => f a ha) h4
    cases w' with
    | none =>
      have := z rfl
      subst this
      exact hm
    | some w =>
      obtain ⟨v, hv, hr⟩ := g w rfl
      exact ⟨v, Fi', Fb, hv, rfl, hr, hm⟩
  | s :: σ, none :: ρ, F, i + 1, h, hi, hj => by
    obtain ⟨Fa, Fi, Fb, e1, e2, e3, e4⟩ := RSl.zoom σ ρ F i h (Nat.lt_of_succ_lt_succ hi) (Nat.lt_of_succ_lt_succ hj)
    exact ⟨Fa, Fi, Fb, e1, e2, e3, fun G' H' sv w' Fi' e f g z => e4 G' H' sv w' Fi' e f g z⟩
  | s :: σ, some w :: ρ, F, i + 1, ⟨v, Fa, Fb, h1, h2, h3, h4⟩, hi, hj => by
    obtain ⟨Fc, Fi, Fd, e1, e2, e3, e4⟩ := RSl.zoom σ ρ Fb i h4 (Nat.lt_of_succ_lt_succ hi) (Nat.lt_of_succ_lt_succ hj)
    refine ⟨Fa ++ Fc, Fi, Fd, by rw [h2, e1]; simp [List.append_assoc], e2, e3, fun G' H' sv w' Fi' e f g z => ?_⟩
    refine ⟨v, Fa, Fc ++ Fi' ++ Fd, h1, by simp [List.append_assoc], ?_, e4 G' H' sv w' Fi' e (fun a ha => f a ?_) g z⟩
    · exact RO.mono e _ _ _ Fa (fun a ha => f a (by simp [ha])) h3
    · rcases List.mem_append.mp ha with q | q
      · simp [q]
      · simp [q]
theorem RSl.len : ∀ (σ : L2.St) (ρ : Env) (F : List Addr), RSl K G H σ ρ F → ∀ (i : Nat) (w : W), ρ[i]? = some (some w) → i < σ.length
  | [], [], _, _, i, w, e => by simp at e
  | _ :: _, [], _, _, i, w, e => by simp at e
  | [], none :: ρ, F, h, 0, w, e => by simp at e
  | [], none :: ρ, F, h, i + 1, w, e => by
    have := RSl.len [] ρ F h i w (by simpa using e)
    simp at this
  | [], some _ :: _, _, h, _, _, _ => h.elim
  | _ :: σ, none :: ρ, F, h, 0, w, e => Nat.zero_lt_succ _
  | _ :: σ, none :: ρ, F, h, i + 1, w, e => Nat.succ_lt_succ (RSl.len σ ρ F h i w (by simpa using e))
  | s :: σ, some w' :: ρ, F, ⟨v, F1, F2, h1, h2, h3, h4⟩, 0, w, e => Nat.zero_lt_succ _
  | s :: σ, some w' :: ρ, F, ⟨v, F1, F2, h1, h2, h3, h4⟩, i + 1, w, e => Nat.succ_lt_succ (RSl.len σ ρ F2 h4 i w (by simpa using e))
/-- what a slot holds -/
theorem RSl.at (h : RSl K G H σ ρ F) {i : Nat} {w : W} (e : ρ[i]? = some (some w)) : ∃ v Fi, σ[i]? = some (some v) ∧ RO K G H w.1 w.2 v Fi ∧ ∀ a ∈ Fi, a ∈ F := by
  have hi : i < ρ.length := (List.getElem?_eq_some_iff.mp e).1
  obtain ⟨Fa, Fi, Fb, e1, e2, e3, e4⟩ := RSl.zoom σ ρ F i h hi (RSl.len _ _ _ h i w e)
  obtain ⟨v, h1, h2⟩ := e2 w e
  exact ⟨v, Fi, h1, h2, fun a ha => by rw [e1]; simp [ha]⟩
theorem RWs.env {σ' : L2.St} {ρ' : Env} : ∀ (ws : List (V × Arg)) (F : List Addr), (∀ (i : Nat) (v : V) (w : W), σ[i]? = some (some v) → ρ[i]? = some (some w) → σ'[i]? = some (some v) ∧ ∃ w', ρ'[i]? = some (some w')) → RWs K G H σ ρ ws F → RWs K G H σ' ρ' ws F
  | [], _, _, h => h
  | (x, .v k d) :: ws, F, f, ⟨F1, F2, h2, h3, h4⟩ => ⟨F1, F2, h2, h3, RWs.env ws F2 f h4⟩
  | (x, .r i) :: ws, F, f, ⟨h1, ⟨w, h2⟩, h3⟩ => ⟨(f i x w h1 h2).1, (f i x w h1 h2).2, RWs.env ws F f h3⟩
/-- how a step may grow the heaps: what comes new, owned at F' -/
structure Grow (G H G' H' : Hp) (F' : List Addr) : Prop where
  gg : Same G G'
  gh : Same G' H'
  hh : Same H H'
  fr : ∀ b, G b = none → H b ≠ none → G' b = none
  nd : F'.Nodup
  nw : ∀ a ∈ F', H a = none ∧ G' a = none
  tu : ∀ b o, H b = none → H' b = some o → ¬ isOwn o → G' b = some o
theorem Grow.refl (e : Same G H) : Grow G H G H [] := ⟨Same.refl _, e, Same.refl _, fun _ h _ => h, List.nodup_nil, (fun a h => by cases h), fun b o h1 h2 => by rw [h1] at h2; cases h2⟩
/-- a new object, frozen -/
theorem Grow.newF (e : Same G H) {p : Addr} {o : HO} (hp : H p = none) : Grow G H (upd G p o) (upd H p o) [] := by
  have gp : G p = none := e.free hp
  refine ⟨fun b u h => ?_, fun b u h => ?_, fun b u h => ?_, fun b h1 h2 => ?_, List.nodup_nil, (fun a h => by cases h), fun b u h1 h2 _ => ?_⟩
  · rw [upd_ne (ne_of_none h gp)]; exact h
  · by_cases hb : b = p
    · subst hb; rw [upd_same] at h ⊢; exact h
    · rw [upd_ne hb] at h ⊢; exact e b u h
  · rw [upd_ne (ne_of_none h hp)]; exact h
  · have : b ≠ p := fun z => h2 (by rw [z]; exact hp)
    rw [upd_ne this]; exact h1
  · by_cases hb : b = p
    · subst hb; rw [upd_same] at h2 ⊢; exact h2
    · rw [upd_ne hb] at h2; rw [h1] at h2; cases h2
/-- a new object, owned -/
theorem Grow.newO (e : Same G H) {p : Addr} {o : HO} (hp : H p = none) (ho : isOwn o) : Grow G H G (upd H p o) [p] := by
  have gp : G p = none := e.free hp
  refine ⟨Same.refl _, fun b u h => ?_, fun b u h => ?_, fun b h1 h2 => h1, by simp, fun a h => ?_, fun b u h1 h2 h3 => ?_⟩
  · rw [upd_ne (ne_of_none h gp)]; exact e b u h
  · rw [upd_ne (ne_of_none h hp)]; exact h
  · simp at h; subst h; exact ⟨hp, gp⟩
  · by_cases hb : b = p
    · subst hb; rw [upd_same] at h2; cases h2; exact absurd ho h3
    · rw [upd_ne hb] at h2; rw [h1] at h2; cases h2
theorem Grow.trans {G2 H2 : Hp} {Fa Fb : List Addr} (a : Grow G H G' H' Fa) (b : Grow G' H' G2 H2 Fb) (ha : ∀ x ∈ Fa, H' x ≠ none) : Grow G H G2 H2 (Fa ++ Fb) := by
  refine ⟨a.gg.trans b.gg, b.gh, a.hh.trans b.hh, fun c h1 h2 => ?_, ?_, fun x hx => ?_, fun c u h1 h2 h3 => ?_⟩
  · refine b.fr c (a.fr c h1 h2) ?_
    cases q : H c with
    | none => exact absurd q h2
    | some o => rw [a.hh c o q]; simp
  · refine List.nodup_append.mpr ⟨a.nd, b.nd, fun x hx y hy e => ?_⟩
    subst e
    exact ha x hx (b.nw x hy).1
  · rcases List.mem_append.mp hx with z | z
    · exact ⟨(a.nw x z).1, b.fr x (a.nw x z).2 (ha x z)⟩
    · exact ⟨a.hh.free (b.nw x z).1, (b.nw x z).2⟩
  · cases q : H' c with
    | none => exact b.tu c u q h2 h3
    | some o =>
      have e := b.hh c o q
      rw [h2] at e
      cases e
      exact b.gg c _ (a.tu c _ h1 q h3)
/-- drop the first waiting value -/
theorem Si.drop {x : V} {a : Arg} (I : Si K G0 σ ρ ((x, a) :: ws) H G F1 F2) : ∃ F2', (∀ b ∈ F2', b ∈ F2) ∧ Si K G0 σ ρ ws H G F1 F2' := by
  cases a with
  | v k d =>
    obtain ⟨Fa, Fb, h2, h3, h4⟩ := I.wv
    subst h2
    refine ⟨Fb, fun b hb => List.mem_append_right _ hb, I.ex0, I.ex, I.sl, h4, ?_, fun b hb => I.fr b ?_, I.tu, I.ln⟩
    · have := I.nd
      simp only [List.nodup_append, List.mem_append] at this ⊢
      exact ⟨this.1, this.2.1.2.1, fun x hx y hy => this.2.2 x hx y (.inr hy)⟩
    · rcases List.mem_append.mp hb with z | z
      · exact List.mem_append_left _ z
      · exact List.mem_append_right _ (List.mem_append_right _ z)
  | r i =>
    obtain ⟨h1, h2, h3⟩ := I.wv
    exact ⟨F2, fun b hb => hb, I.ex0, I.ex, I.sl, h3, I.nd, I.fr, I.tu, I.ln⟩
theorem SI.drop {x : V} {a : Arg} (I : SI K G0 σ ρ ((x, a) :: ws) H) : SI K G0 σ ρ ws H := by
  obtain ⟨G, F1, F2, I⟩ := I
  obtain ⟨F2', _, I'⟩ := I.drop
  exact ⟨G, F1, F2', I'⟩
theorem Grow.keep (g : Grow G H G' H' F) {a : Addr} {o : HO} (h : H a = some o) : H' a = H a := by rw [g.hh a o h, h]
/-- a step that grows the heaps -/
theorem Si.grow {F' : List Addr} (I : Si K G0 σ ρ ws H G F1 F2) (g : Grow G H G' H' F') : Si K G0 σ ρ ws H' G' F1 F2 := by
  have own := I.own
  have kp : ∀ a ∈ F1 ++ F2, H' a = H a := fun a ha => let ⟨o, h, _⟩ := own a ha; g.keep h
  refine ⟨I.ex0.trans g.gg, g.gh, RSl.mono g.gg _ _ _ (fun a ha => kp a (List.mem_append_left _ ha)) I.sl, RWs.mono g.gg _ _ (fun a ha => kp a (List.mem_append_right _ ha)) I.wv, I.nd, fun a ha => ?_, fun b o h1 h2 => ?_, I.ln⟩
  · obtain ⟨o, h, _⟩ := own a ha
    exact g.fr a (I.fr a ha) (by rw [h]; simp)
  · cases q : H b with
    | none => exact g.tu b o q h1 h2
    | some u =>
      have e := g.hh b u q
      rw [h1] at e
      cases e
      exact g.gg b _ (I.tu b _ q h2)
/-- a new value waits -/
theorem Si.push {F' : List Addr} {k : Nat} {d : D} {v : V} (I : Si K G0 σ ρ ws H G F1 F2) (g : Grow G H G' H' F') (r : RO K G' H' k d v F') : Si K G0 σ ρ ((v, .v k d) :: ws) H' G' F1 (F' ++ F2) := by
  have J := I.grow g
  have own := I.own
  refine ⟨J.ex0, J.ex, J.sl, ⟨F', F2, rfl, r, J.wv⟩, ?_, fun a ha => ?_, J.tu, J.ln⟩
  · have n1 := J.nd
    simp only [List.nodup_append, List.mem_append] at n1 ⊢
    refine ⟨n1.1, ⟨g.nd, n1.2.1, fun x hx y hy e => ?_⟩, fun x hx y hy e => ?_⟩
    · subst e
      obtain ⟨o, h, _⟩ := own x (List.mem_append_right _ hy)
      rw [(g.nw x hx).1] at h; cases h
    · subst e
      rcases hy with hy | hy
      · obtain ⟨o, h, _⟩ := own x (List.mem_append_left _ hx)
        rw [(g.nw x hy).1] at h; cases h
      · exact n1.2.2 x hx x hy rfl
  · rcases List.mem_append.mp ha with z | z
    · exact J.fr a (List.mem_append_left _ z)
    · rcases List.mem_append.mp z with z | z
      · exact (g.nw a z).2
      · exact J.fr a (List.mem_append_right _ z)
theorem Si.SI (I : Si K G0 σ ρ ws H G F1 F2) : SI K G0 σ ρ ws H := ⟨G, F1, F2, I⟩
/-- a frozen value waits -/
theorem Si.pushF {d : D} {v : V} (I : Si K G0 σ ρ ws H G F1 F2) (r : RepF K G d v) : Si K G0 σ ρ ((v, .v 0 d) :: ws) H G F1 F2 :=
  I.push (F' := []) (Grow.refl I.ex) ⟨r, rfl⟩
/-- what a slot holds waits -/
theorem Si.pushR {i : Nat} {w : W} {v : V} (I : Si K G0 σ ρ ws H G F1 F2) (h : ρ[i]? = some (some w)) (e : σ[i]? = some (some v)) : Si K G0 σ ρ ((v, .r i) :: ws) H G F1 F2 :=
  ⟨I.ex0, I.ex, I.sl, ⟨e, ⟨w, h⟩, I.wv⟩, I.nd, I.fr, I.tu, I.ln⟩
/-- what waits first -/
theorem Si.top {x : V} {a : Arg} {w : W} (I : Si K G0 σ ρ ((x, a) :: ws) H G F1 F2) (h : a.get ρ = some w) : ∃ Fx, RO K G H w.1 w.2 x Fx := by
  cases a with
  | v k d =>
    obtain ⟨Fa, Fb, h2, h3, h4⟩ := I.wv
    cases h
    exact ⟨Fa, h3⟩
  | r i =>
    obtain ⟨h1, ⟨w', h2⟩, h3⟩ := I.wv
    have h' : ρ[i]? = some (some w) := by
      have : (ρ[i]?).join = some w := h
      rw [h2] at this ⊢
      simpa using this
    obtain ⟨v, Fi, e1, e2, _⟩ := I.sl.at h'
    rw [h1] at e1
    cases e1
    exact ⟨Fi, e2⟩
/-- F is laid down in the frozen heap -/
def lay (G H : Hp) (F : List Addr) : Hp := fun b => if b ∈ F then H b else G b
theorem lay_in {F : List Addr} {b : Addr} (h : b ∈ F) : lay G H F b = H b := if_pos h
theorem lay_out {F : List Addr} {b : Addr} (h : b ∉ F) : lay G H F b = G b := if_neg h
theorem same_lay {F : List Addr} (h : ∀ a ∈ F, G a = none) : Same G (lay G H F) := fun b o e => by
  by_cases hb : b ∈ F
  · rw [h b hb] at e; cases e
  · rw [lay_out hb]; exact e
theorem lay_same {F : List Addr} (e : Same G H) : Same (lay G H F) H := fun b o h => by
  by_cases hb : b ∈ F
  · rw [lay_in hb] at h; exact h
  · rw [lay_out hb] at h; exact e b o h
/-- the first waiting value is frozen and taken off -/
theorem Si.freeze {x : V} {k : Nat} {d : D} (I : Si K G0 σ ρ ((x, .v k d) :: ws) H G F1 F2) : ∃ G' F2', Si K G0 σ ρ ws H G' F1 F2' ∧ Same G G' ∧ RepF K G' d x := by
  obtain ⟨Fa, Fb, h2, h3, h4⟩ := I.wv
  subst h2
  have nd := I.nd
  simp only [List.nodup_append, List.mem_append] at nd
  have ga : ∀ a ∈ Fa, G a = none := fun a ha => I.fr a (by simp [ha])
  have e := same_lay (H := H) ga
  refine ⟨lay G H Fa, Fb, ⟨I.ex0.trans e, lay_same I.ex, RSl.mono e _ _ _ (fun _ _ => rfl) I.sl, RWs.mono e _ _ (fun _ _ => rfl) h4, ?_, fun b hb => ?_, fun b o h1 h2 => e b o (I.tu b o h1 h2), I.ln⟩, e,
    RO.toF e _ _ _ Fa (fun a ha => lay_in ha) h3⟩
  · simp only [List.nodup_append]
    exact ⟨nd.1, nd.2.1.2.1, fun x hx y hy => nd.2.2 x hx y (.inr hy)⟩
  · have hn : b ∉ Fa := fun z => by
      rcases List.mem_append.mp hb with q | q
      · exact nd.2.2 b q b (.inl z) rfl
      · exact nd.2.1.2.2 b z b q rfl
    rw [lay_out hn]
    refine I.fr b ?_
    rcases List.mem_append.mp hb with q | q
    · simp [q]
    · simp [q]
theorem Si.next {x y : V} {a b : Arg} {w : W} (I : Si K G0 σ ρ ((x, a) :: (y, b) :: ws) H G F1 F2) (h : b.get ρ = some w) : ∃ Fx, RO K G H w.1 w.2 y Fx := by
  obtain ⟨F2', _, I'⟩ := I.drop
  exact I'.top h
end
end Pv
set_option Elab.async false
set_option linter.all false
set_option maxRecDepth 100000
/-! P3: expressions -/
namespace Pv
open PySem PySem.Spec PyProof.Rows L2
/-! ### judgements -/
theorem PE.imp {X : Cx} {e : Expr} {t t' : TE} (h : PE X e t) (i : ∀ σ H Q, t' σ H Q → t σ H Q) : PE X e t' := ⟨fun pins s σ H Q I q => h.run pins s σ H Q I (i σ H Q q)⟩
theorem PT.imp {X : Cx} {e : Expr} {t t' : TT} (h : PT X e t) (i : ∀ σ H Q, t' σ H Q → t σ H Q) : PT X e t' := ⟨fun pins s σ H Q I q => h.run pins s σ H Q I (i σ H Q q)⟩
theorem PW.imp {X : Cx} {e : Expr} {t t' : TT} (h : PW X e t) (i : ∀ σ H Q, t' σ H Q → t σ H Q) : PW X e t' := ⟨fun w pins s σ H Q I q => h.run w pins s σ H Q I (i σ H Q q)⟩
theorem PA.imp {X : Cx} {es : List Expr} {t t' : TA} (h : PA X es t) (i : ∀ σ H Q, t' σ H Q → t σ H Q) : PA X es t' := ⟨fun pos pins s σ H Q I q => h.run pos pins s σ H Q I (i σ H Q q)⟩
theorem PO.imp {X : Cx} {e : Option Expr} {t t' : TO} (h : PO X e t) (i : ∀ σ H Q, t' σ H Q → t σ H Q) : PO X e t' := ⟨fun pins s σ H Q I q => h.run pins s σ H Q I (i σ H Q q)⟩
abbrev Fe := Env → Option Arg
abbrev Fb := Env → Option Bool
abbrev Fa := Env → Option (List Arg)
abbrev Fo := Env → Option (Option Int)
def tE (K : PySem.W.Frag) (f : Fe) : TE := fun σ H Q => ∃ G0 ρ ws a, SI K G0 σ ρ ws H ∧ f ρ = some a ∧ ∀ v H', SI K G0 σ ρ ((v, a) :: ws) H' → Q v H'
def tT (K : PySem.W.Frag) (f : Fb) : TT := fun σ H Q => ∃ G0 ρ ws b, SI K G0 σ ρ ws H ∧ f ρ = some b ∧ ∀ H', SI K G0 σ ρ ws H' → Q b H'
def tA (K : PySem.W.Frag) (f : Fa) : TA := fun σ H Q => ∃ G0 ρ ws as, SI K G0 σ ρ ws H ∧ f ρ = some as ∧ ∀ vs H', vs.length = as.length → SI K G0 σ ρ ((vs.zip as).reverse ++ ws) H' → Q vs H'
def tO (K : PySem.W.Frag) (f : Fo) : TO := fun σ H Q => ∃ G0 ρ ws o, SI K G0 σ ρ ws H ∧ f ρ = some o ∧ ∀ H', SI K G0 σ ρ ws H' → Q o H'
def OkE (X : Cx) (e : Expr) (f : Fe) : Prop := PE X e (tE X.K f)
def OkT (X : Cx) (e : Expr) (f : Fb) : Prop := PT X e (tT X.K f)
def OkA (X : Cx) (es : List Expr) (f : Fa) : Prop := PA X es (tA X.K f)
def OkO (X : Cx) (e : Option Expr) (f : Fo) : Prop := PO X e (tO X.K f)
/-- the data of an expression -/
def val (f : Fe) (ρ : Env) : Option W := (f ρ).bind (Arg.get ρ)
/-! ### results -/
def Res (K : PySem.W.Frag) (G H : Hp) (w : W) (t : VK → Prop) : Prop := ∀ Q : VK, (∀ v H' G' F', Grow G H G' H' F' → RO K G' H' w.1 w.2 v F' → Q v H') → t Q
section
variable {K : PySem.W.Frag} {G0 G G' H H' : Hp} {σ : L2.St} {ρ : Env} {ws : List (V × Arg)} {F F1 F2 : List Addr} {t : VK → Prop}
theorem Res.pure {d : D} {v : V} (e : Same G H) (r : RepF K G d v) (h : ∀ Q : VK, Q v H → t Q) : Res K G H (0, d) t := fun Q q => h Q (q v H G [] (Grow.refl e) ⟨r, rfl⟩)
theorem Res.tup {ds : List D} {xs : List V} (e : Same G H) (r : RepFs K G ds xs) (h : ∀ Q : VK, (∀ p, H p = none → Q (.ref p) (upd H p (.tup xs))) → t Q) : Res K G H (0, .tup ds) t := fun Q q => h Q fun p hp => by
  have g := Grow.newF (o := .tup xs) e hp
  exact q _ _ _ [] g ⟨⟨p, xs, rfl, upd_same, RepFs.mono g.gg _ _ r⟩, rfl⟩
theorem ROs.of_F : ∀ {ds : List D} {xs : List V}, RepFs K G ds xs → ROs (RO K G H 0) ds xs []
  | [], _, h => ⟨h, rfl⟩
  | d :: ds, _, ⟨x, r, h1, h2, h3⟩ => ⟨x, r, [], [], h1, rfl, ⟨h2, rfl⟩, ROs.of_F h3⟩
theorem ROs.to_F : ∀ {ds : List D} {xs : List V} {F : List Addr}, ROs (RO K G H 0) ds xs F → RepFs K G ds xs ∧ F = []
  | [], _, _, h => h
  | d :: ds, _, _, ⟨x, r, F1, F2, h1, h2, h3, h4⟩ => by
    obtain ⟨q1, q2⟩ := ROs.to_F h4
    exact ⟨⟨x, r, h1, h3.1, q1⟩, by rw [h2, h3.2, q2]; rfl⟩
theorem Res.lst {ds : List D} {xs : List V} (e : Same G H) (r : RepFs K G ds xs) (h : ∀ Q : VK, (∀ p, H p = none → Q (.ref p) (upd H p (.lst xs))) → t Q) : Res K G H (1, .lst ds) t := fun Q q => h Q fun p hp => by
  have g := Grow.newO (o := .lst xs) e hp trivial
  exact q _ _ _ [p] g ⟨p, xs, [], rfl, upd_same, rfl, ROs.of_F r⟩
theorem Si.length_tup : ∀ {ds : List D} {xs : List V}, RepFs K G ds xs → xs.length = ds.length
  | [], _, h => by rw [show _ = [] from h]; rfl
  | d :: ds, _, ⟨x, r, h1, h2, h3⟩ => by rw [h1, List.length_cons, List.length_cons, Si.length_tup h3]
theorem RepFs.len {ds : List D} {xs : List V} (h : RepFs K G ds xs) : xs.length = ds.length := Si.length_tup h
theorem RepFs.get : ∀ {ds : List D} {xs : List V} {i : Nat} {d : D}, RepFs K G ds xs → ds[i]? = some d → ∃ x, xs[i]? = some x ∧ RepF K G d x
  | [], _, _, _, _, e => by simp at e
  | d :: ds, _, 0, d', ⟨x, r, h1, h2, h3⟩, e => by
    simp at e
    subst e
    exact ⟨x, by rw [h1]; rfl, h2⟩
  | d :: ds, _, i + 1, d', ⟨x, r, h1, h2, h3⟩, e => by
    obtain ⟨y, q1, q2⟩ := RepFs.get (i := i) h3 (by simpa using e)
    exact ⟨y, by rw [h1]; simpa using q1, q2⟩
theorem RepFs.append : ∀ {ds es : List D} {xs ys : List V}, RepFs K G ds xs → RepFs K G es ys → RepFs K G (ds ++ es) (xs ++ ys)
  | [], _, _, _, h, q => by rw [show _ = [] from h]; exact q
  | d :: ds, _, _, _, ⟨x, r, h1, h2, h3⟩, q => ⟨x, r ++ _, by rw [h1]; rfl, h2, RepFs.append h3 q⟩
theorem RepFs.take : ∀ {ds : List D} {xs : List V} (n : Nat), RepFs K G ds xs → RepFs K G (ds.take n) (xs.take n)
  | [], _, n, h => by rw [show _ = [] from h]; simp; exact (rfl : ([] : List V) = [])
  | d :: ds, _, 0, _ => by simp; exact (rfl : ([] : List V) = [])
  | d :: ds, _, n + 1, ⟨x, r, h1, h2, h3⟩ => ⟨x, r.take n, by rw [h1]; rfl, h2, RepFs.take n h3⟩
theorem RepFs.drop : ∀ {ds : List D} {xs : List V} (n : Nat), RepFs K G ds xs → RepFs K G (ds.drop n) (xs.drop n)
  | [], _, n, h => by rw [show _ = [] from h]; simp; exact (rfl : ([] : List V) = [])
  | d :: ds, _, 0, h => h
  | d :: ds, _, n + 1, ⟨x, r, h1, h2, h3⟩ => by rw [h1]; exact RepFs.drop n h3
/-! ### what stands for data -/
def isBox : D → Bool
  | .lst _ => true
  | .dct _ _ => true
  | _ => false
theorem RO.plain {k : Nat} {d : D} {v : V} (h : isBox d = false) (r : RO K G H k d v F) : RepF K G d v ∧ F = [] := by
  cases k with
  | zero => exact r
  | succ k => cases d <;> first | exact r | cases h
theorem RO.int {k : Nat} {i : Int} {v : V} (r : RO K G H k (.int i) v F) : v = .int i := (r.plain rfl).1
theorem RO.str {k : Nat} {i : Str} {v : V} (r : RO K G H k (.str i) v F) : v = .str i := (r.plain rfl).1
theorem RO.bl {k : Nat} {i : Bool} {v : V} (r : RO K G H k (.bl i) v F) : v = .bl i := (r.plain rfl).1
theorem RO.non {k : Nat} {v : V} (r : RO K G H k .non v F) : v = .non := (r.plain rfl).1
theorem RO.tupE {k : Nat} {ds : List D} {v : V} (r : RO K G H k (.tup ds) v F) : ∃ a xs, v = .ref a ∧ G a = some (.tup xs) ∧ RepFs K G ds xs := (r.plain rfl).1
theorem RO.tup {k : Nat} {ds : List D} {v : V} (r : RO K G H k (.tup ds) v F) : ∃ a xs, v = .ref a ∧ SqT K G a xs ∧ RepFs K G ds xs := let ⟨a, xs, h1, h2, h3⟩ := r.tupE; ⟨a, xs, h1, SqT.of h2, h3⟩
theorem RO.ktp {k : Nat} {ds : List D} {v : V} (r : RO K G H k (.ktp ds) v F) : ∃ a xs, v = .ref a ∧ KTup K G a xs ∧ RepFs K G ds xs := (r.plain rfl).1
theorem RO.scr {k : Nat} {ns : List Int} {v : V} (r : RO K G H k (.scr ns) v F) : ∃ a, v = .ref a ∧ SqL K G a (ns.map V.int) := (r.plain rfl).1
/-- a list whose items are frozen -/
theorem RO.lst1 {k : Nat} {ds : List D} {v : V} (e : Same G H) (hk : k ≤ 1) (r : RO K G H k (.lst ds) v F) : ∃ a xs, v = .ref a ∧ H a = some (.lst xs) ∧ RepFs K G ds xs := by
  match k, hk, r with
  | 0, _, r => obtain ⟨⟨a, xs, h1, h2, h3⟩, _⟩ := r; exact ⟨a, xs, h1, e _ _ h2, h3⟩
  | 1, _, r => obtain ⟨a, xs, F', h1, h2, h3, h4⟩ := r; exact ⟨a, xs, h1, h2, (ROs.to_F h4).1⟩
theorem ROs.len {R : D → V → List Addr → Prop} : ∀ {ds : List D} {xs : List V} {F : List Addr}, ROs R ds xs F → xs.length = ds.length
  | [], _, _, h => by rw [h.1]; rfl
  | d :: ds, _, _, ⟨x, r, F1, F2, h1, h2, h3, h4⟩ => by rw [h1, List.length_cons, List.length_cons, ROs.len h4]
theorem RO.lstN {k : Nat} {ds : List D} {v : V} (e : Same G H) (r : RO K G H k (.lst ds) v F) : ∃ a xs, v = .ref a ∧ H a = some (.lst xs) ∧ xs.length = ds.length := by
  match k, r with
  | 0, r => obtain ⟨⟨a, xs, h1, h2, h3⟩, _⟩ := r; exact ⟨a, xs, h1, e _ _ h2, h3.len⟩
  | k + 1, r => obtain ⟨a, xs, F', h1, h2, h3, h4⟩ := r; exact ⟨a, xs, h1, h2, h4.len⟩
end
/-! ### names, constants -/
section
variable {X : Cx} {e a b : Expr} {pos : Pos} {A B : Fe}
def pC (d : D) : Fe := fun _ => some (.v 0 d)
def pVar (i : Nat) : Fe := fun ρ => ((ρ[i]?).join).bind fun w => if w.1 = 0 then some (.v 0 w.2) else if isBox w.2 then none else some (.v 0 w.2)
def pBv (i : Nat) : Fe := fun ρ => ((ρ[i]?).join).map fun _ => .r i
theorem join_some {α : Type} {x : Option (Option α)} {a : α} (h : x.join = some a) : x = some (some a) := by
  cases x with
  | none => cases h
  | some y => simpa using h
theorem e_const {d : D} {v : V} (h : PE X e (tC v)) (r : ∀ G, RepF X.K G d v) : OkE X e (pC d) := PE.imp h fun σ H Q ⟨G0, ρ, ws, a, ⟨G, F1, F2, I⟩, hf, q⟩ => by
  cases hf
  exact q v H (I.pushF (r G)).SI
theorem e_int {i : Int} {j pos} : OkE X (.Constant (.int i) j pos) (pC (.int i)) := e_const pe_int fun _ => rfl
theorem e_bl {b : Bool} {j pos} : OkE X (.Constant (.bool b) j pos) (pC (.bl b)) := e_const pe_bl fun _ => rfl
theorem e_non {j pos} : OkE X (.Constant .none j pos) (pC .non) := e_const pe_non fun _ => rfl
theorem e_str {x : Str} {j pos} : OkE X (.Constant (.str x) j pos) (pC (.str x)) := e_const pe_str fun _ => rfl
theorem e_pv {i : Nat} (h : PE X e (tVar i)) : OkE X e (pVar i) := PE.imp h fun σ H Q ⟨G0, ρ, ws, a, ⟨G, F1, F2, I⟩, hf, q⟩ => by
  obtain ⟨w, hw, hf⟩ := Option.bind_eq_some_iff.mp hf
  obtain ⟨v, Fi, h1, h2, _⟩ := I.sl.at (join_some hw)
  refine ⟨v, h1, ?_⟩
  have key : RepF X.K G w.2 v ∧ a = .v 0 w.2 := by
    split at hf
    · rename_i hk
      rw [hk] at h2
      exact ⟨h2.1, (Option.some.inj hf).symm⟩
    · split at hf
      · cases hf
      · rename_i hb
        exact ⟨(RO.plain (by simpa using hb) h2).1, (Option.some.inj hf).symm⟩
  rw [key.2] at q
  exact q v H (I.pushF key.1).SI
theorem e_pb {i : Nat} (h : PE X e (tVar i)) : OkE X e (pBv i) := PE.imp h fun σ H Q ⟨G0, ρ, ws, a, ⟨G, F1, F2, I⟩, hf, q⟩ => by
  obtain ⟨w, hw, hf⟩ := Option.map_eq_some_iff.mp hf
  obtain ⟨v, Fi, h1, h2, _⟩ := I.sl.at (join_some hw)
  subst hf
  exact ⟨v, h1, q v H (I.pushR (join_some hw) h1).SI⟩
/-- the i-th name of the def, its value; what it holds -/
theorem e_var (i : Nat) {x : Str} {pos : Pos} (hN : X.N[i]? = some x := by rfl) (hv : Vis X.env.scope x := by first | exact Or.inl rfl | exact Or.inr (Or.inl rfl) | exact Or.inr (Or.inr rfl)) (hd : (x == ("__debug__" : Str)) = false := by decide)
    (hcd : (x == ("__classdict__" : Str)) = false := by decide) : OkE X (.Name x pos) (pVar i) := e_pv (pe_var hN hv hd hcd)
theorem e_bv (i : Nat) {x : Str} {pos : Pos} (hN : X.N[i]? = some x := by rfl) (hv : Vis X.env.scope x := by first | exact Or.inl rfl | exact Or.inr (Or.inl rfl) | exact Or.inr (Or.inr rfl)) (hd : (x == ("__debug__" : Str)) = false := by decide)
    (hcd : (x == ("__classdict__" : Str)) = false := by decide) : OkE X (.Name x pos) (pBv i) := e_pb (pe_var hN hv hd hcd)
/-! ### operations on values -/
def pOp1 (g : W → Option W) (A : Fe) : Fe := fun ρ => (val A ρ).bind fun u => (g u).map fun w => .v w.1 w.2
def pOp2 (g : W → W → Option W) (A B : Fe) : Fe := fun ρ => (val A ρ).bind fun u => (val B ρ).bind fun v => (g u v).map fun w => .v w.1 w.2
def Op1 (K : PySem.W.Frag) (r : V → Hp → VK → Prop) (g : W → Option W) : Prop := ∀ G H u x Fu w, Same G H → RO K G H u.1 u.2 x Fu → g u = some w → Res K G H w (r x H)
def Op2 (K : PySem.W.Frag) (r : R2) (g : W → W → Option W) : Prop := ∀ G H u v x y Fu Fv w, Same G H → RO K G H u.1 u.2 x Fu → RO K G H v.1 v.2 y Fv → g u v = some w → Res K G H w (r x y H)
theorem val_some {f : Fe} {ρ : Env} {w : W} (h : val f ρ = some w) : ∃ a, f ρ = some a ∧ a.get ρ = some w := Option.bind_eq_some_iff.mp h
theorem op1_imp {r : V → Hp → VK → Prop} {g : W → Option W} {K : PySem.W.Frag} (hg : Op1 K r g) (σ : L2.St) (H : Hp) (Q : VK) (h : tE K (pOp1 g A) σ H Q) : tE K A σ H fun x H1 => r x H1 Q := by
  obtain ⟨G0, ρ, ws, a, I, hf, q⟩ := h
  obtain ⟨u, hu, hf⟩ := Option.bind_eq_some_iff.mp hf
  obtain ⟨w, hw, rfl⟩ := Option.map_eq_some_iff.mp hf
  obtain ⟨a1, ha, hg1⟩ := val_some hu
  refine ⟨G0, ρ, ws, a1, I, ha, fun x H1 I1 => ?_⟩
  obtain ⟨G, F1, F2, J⟩ := I1
  obtain ⟨Fx, rx⟩ := J.top hg1
  refine hg G H1 u x Fx w J.ex rx hw Q fun v H' G' F' gr rv => ?_
  obtain ⟨F2', _, J'⟩ := J.drop
  exact q v H' (J'.push gr rv).SI
theorem op2_imp {r : R2} {g : W → W → Option W} {K : PySem.W.Frag} (hg : Op2 K r g) (σ : L2.St) (H : Hp) (Q : VK) (h : tE K (pOp2 g A B) σ H Q) : tOp r (tE K A) (tE K B) σ H Q := by
  obtain ⟨G0, ρ, ws, a, I, hf, q⟩ := h
  obtain ⟨u, hu, hf⟩ := Option.bind_eq_some_iff.mp hf
  obtain ⟨v, hv, hf⟩ := Option.bind_eq_some_iff.mp hf
  obtain ⟨w, hw, rfl⟩ := Option.map_eq_some_iff.mp hf
  obtain ⟨a1, ha, hg1⟩ := val_some hu
  obtain ⟨a2, hb, hg2⟩ := val_some hv
  refine ⟨G0, ρ, ws, a1, I, ha, fun x H1 I1 => ⟨G0, ρ, (x, a1) :: ws, a2, I1, hb, fun y H2 I2 => ?_⟩⟩
  obtain ⟨G, F1, F2, J⟩ := I2
  obtain ⟨Fy, ry⟩ := J.top hg2
  obtain ⟨Fx, rx⟩ := J.next hg1
  refine hg G H2 u v x y Fx Fy w J.ex rx ry hw Q fun z H' G' F' gr rv => ?_
  obtain ⟨F2', _, J'⟩ := J.drop
  obtain ⟨F3', _, J''⟩ := J'.drop
  exact q z H' (J''.push gr rv).SI
theorem e_bin {op : Operator} {r : R2} {g : W → W → Option W} (ho : OpR X (binaryOp op) r) (hg : Op2 X.K r g) (ha : OkE X a A) (hb : OkE X b B) : OkE X (.BinOp a op b pos) (pOp2 g A B) := PE.imp (pe_op ho ha hb) (op2_imp hg)
theorem e_cmp {op : CmpOp} {r : R2} {g : W → W → Option W} (ho : OpR X (compareOp op) r) (hg : Op2 X.K r g) (ha : OkE X a A) (hb : OkE X b B) (hm : behindInMarks op b = false := by rfl) : OkE X (.Compare a [op] [b] pos) (pOp2 g A B) :=
  PE.imp (pe_cmpR ho ha hb hm) (op2_imp hg)
theorem e_un {op : UnaryOp} {r : V → Hp → VK → Prop} {g : W → Option W} (ho : UnR X (unaryOp op) r) (hg : Op1 X.K r g) (ha : OkE X a A) : OkE X (.UnaryOp op a pos) (pOp1 g A) := PE.imp (pe_un ho ha) (op1_imp hg)
theorem e_ix {r : R2} {g : W → W → Option W} (ho : IxR X r) (hg : Op2 X.K r g) (ha : OkE X a A) (hb : OkE X b B) (hs : PlainIx b := by exact fun _ _ => rfl) : OkE X (.Subscript a b pos) (pOp2 g A B) := PE.imp (pe_ix ho ha hb hs) (op2_imp hg)
theorem Op2.or {K : PySem.W.Frag} {r r' : R2} {g g' : W → W → Option W} (h : Op2 K r g) (h' : Op2 K r' g') : Op2 K (fun x y H Q => r x y H Q ∨ r' x y H Q) (fun u v => (g u v).orElse fun _ => g' u v) := fun G H u v x y Fu Fv w e ru rv hw Q q => by
  replace hw : ((g u v).orElse fun _ => g' u v) = some w := hw
  cases hg : g u v with
  | some z =>
    rw [hg] at hw
    exact .inl (h G H u v x y Fu Fv w e ru rv (by rw [hg]; exact hw) Q q)
  | none =>
    rw [hg] at hw
    exact .inr (h' G H u v x y Fu Fv w e ru rv hw Q q)
end
end Pv
set_option Elab.async false
set_option linter.all false
set_option maxRecDepth 100000
/-! P4: operations by data -/
namespace Pv
open PySem PySem.Spec PyProof.Rows L2
def big : Nat := 1000000
theorem big_line {n : Nat} (h : n ≤ big) : n ≤ sizeLine := Nat.le_trans h (by decide)
theorem big_lt {n : Nat} (h : n < big) : n < sizeLine := Nat.lt_of_lt_of_le h (by decide)
section
variable {K : PySem.W.Frag} {G0 G G' H H' : Hp}
/-! ### + - * // % ** -/
def gAdd : W → W → Option W
  | (_, .int i), (_, .int j) => some (0, .int (i + j))
  | (_, .str a), (_, .str b) => if a.length + b.length ≤ big then some (0, .str (a ++ b)) else none
  | (k, .lst xs), (l, .lst ys) => if k ≤ 1 ∧ l ≤ 1 ∧ xs.length + ys.length ≤ big then some (1, .lst (xs ++ ys)) else none
  | (_, .tup xs), (_, .tup ys) => if xs.length + ys.length ≤ big then some (0, .tup (xs ++ ys)) else none
  | _, _ => none
def rAdd (K : PySem.W.Frag) : R2 := fun x y H Q => rI0 (fun i j => .int (i + j)) x y H Q ∨ (∃ i j, x = .str i ∧ y = .str j ∧ i.length + j.length ≤ sizeLine ∧ Q (.str (i ++ j)) H) ∨ rCat x y H Q ∨ rCatA K x y H Q
theorem op_addA {X : Cx} : OpR X (binaryOp .Add) (rAdd X.K) := OpR.or op_add (OpR.or op_add_str (OpR.or op_cat op_catA))
theorem RepFs.nil_iff {ds : List D} {xs : List V} (h : RepFs K G ds xs) : xs = [] ↔ ds = [] := by
  have := h.len
  constructor
  · intro e; subst e; exact List.eq_nil_of_length_eq_zero this.symm
  · intro e; subst e; exact List.eq_nil_of_length_eq_zero this
theorem g_add : Op2 K (rAdd K) gAdd := by
  intro G H u v x y Fu Fv w e ru rv hw
  unfold gAdd at hw
  split at hw
  · cases hw
    obtain rfl := ru.int
    obtain rfl := rv.int
    exact Res.pure e rfl fun Q q => .inl ⟨_, _, rfl, rfl, q⟩
  · split at hw
    · rename_i hz
      cases hw
      obtain rfl := ru.str
      obtain rfl := rv.str
      exact Res.pure e rfl fun Q q => .inr (.inl ⟨_, _, rfl, rfl, big_line hz, q⟩)
    · cases hw
  · split at hw
    · rename_i hz
      cases hw
      obtain ⟨a, xs, rfl, h1, h2⟩ := ru.lst1 e hz.1
      obtain ⟨b, ys, rfl, h3, h4⟩ := rv.lst1 e hz.2.1
      exact Res.lst e (h2.append h4) fun Q q => .inr (.inr (.inl ⟨a, b, xs, ys, rfl, rfl, h1, h3, by rw [h2.len, h4.len]; exact big_line hz.2.2, q⟩))
    · cases hw
  · split at hw
    · rename_i hz
      cases hw
      obtain ⟨a, xs, rfl, h1, h2⟩ := ru.tupE
      obtain ⟨b, ys, rfl, h3, h4⟩ := rv.tupE
      intro Q q
      have hl : xs.length + ys.length ≤ sizeLine := by rw [h2.len, h4.len]; exact big_line hz
      refine .inr (.inr (.inr ⟨a, b, xs, ys, rfl, rfl, SqT.of (e _ _ h1), SqT.of (e _ _ h3), hl, fun z => ?_, fun _ z => ?_, fun _ _ p hp => ?_⟩))
      · have z' := h2.nil_iff.mp z
        subst z'
        exact q _ H G [] (Grow.refl e) ⟨⟨b, ys, rfl, h3, h4⟩, rfl⟩
      · have z' := h4.nil_iff.mp z
        subst z'
        refine q _ H G [] (Grow.refl e) ⟨⟨a, xs, rfl, h1, ?_⟩, rfl⟩
        rw [List.append_nil]; exact h2
      · have g := Grow.newF (o := .tup (xs ++ ys)) e hp
        exact q _ _ _ [] g ⟨⟨p, _, rfl, upd_same, RepFs.mono g.gg _ _ (h2.append h4)⟩, rfl⟩
    · cases hw
  · cases hw
/-- int operations -/
theorem g_int2 {C : Int → Int → Prop} {f : Int → Int → Int} {g : W → W → Option W} (h : ∀ u v w, g u v = some w → ∃ i j k l, u = (k, .int i) ∧ v = (l, .int j) ∧ C i j ∧ w = (0, .int (f i j))) : Op2 K (rI C fun i j => .int (f i j)) g := by
  intro G H u v x y Fu Fv w e ru rv hw
  obtain ⟨i, j, k, l, rfl, rfl, hc, rfl⟩ := h u v w hw
  obtain rfl := RO.int ru
  obtain rfl := RO.int rv
  exact Res.pure e rfl fun Q q => ⟨_, _, rfl, rfl, hc, q⟩
theorem g_int20 {f : Int → Int → Int} {g : W → W → Option W} (h : ∀ u v w, g u v = some w → ∃ i j k l, u = (k, .int i) ∧ v = (l, .int j) ∧ w = (0, .int (f i j))) : Op2 K (rI0 fun i j => .int (f i j)) g := by
  intro G H u v x y Fu Fv w e ru rv hw
  obtain ⟨i, j, k, l, rfl, rfl, rfl⟩ := h u v w hw
  obtain rfl := RO.int ru
  obtain rfl := RO.int rv
  exact Res.pure e rfl fun Q q => ⟨_, _, rfl, rfl, q⟩
def gSub : W → W → Option W
  | (_, .int i), (_, .int j) => some (0, .int (i - j))
  | _, _ => none
theorem g_sub : Op2 K (rI0 fun i j => .int (i - j)) gSub := g_int20 fun u v w h => by
  unfold gSub at h; split at h
  · cases h; exact ⟨_, _, _, _, rfl, rfl, rfl⟩
  · cases h
def gMulI : W → W → Option W
  | (_, .int i), (_, .int j) => if (-(2 ^ 64) < j ∧ j < 2 ^ 64) ∨ (-(2 ^ 64) < i ∧ i < 2 ^ 64) then some (0, .int (i * j)) else none
  | _, _ => none
theorem g_mulI : Op2 K (rI CMul fun i j => .int (i * j)) gMulI := g_int2 fun u v w h => by
  unfold gMulI at h; split at h
  · split at h
    · rename_i hc
      cases h; exact ⟨_, _, _, _, rfl, rfl, hc.symm, rfl⟩
    · cases h
  · cases h
def gFdiv : W → W → Option W
  | (_, .int i), (_, .int j) => if 0 < j ∧ j < 1073741824 then some (0, .int (i / j)) else none
  | _, _ => none
theorem g_fdiv : Op2 K (rI CDiv fun i j => .int (i / j)) gFdiv := g_int2 fun u v w h => by
  unfold gFdiv at h; split at h
  · split at h
    · rename_i hc
      cases h; exact ⟨_, _, _, _, rfl, rfl, hc, rfl⟩
    · cases h
  · cases h
def gMod : W → W → Option W
  | (_, .int i), (_, .int j) => if 0 < j then some (0, .int (i % j)) else none
  | _, _ => none
theorem g_mod : Op2 K (rI (fun _ j => 0 < j) fun i j => .int (i % j)) gMod := g_int2 fun u v w h => by
  unfold gMod at h; split at h
  · split at h
    · rename_i hc
      cases h; exact ⟨_, _, _, _, rfl, rfl, hc, rfl⟩
    · cases h
  · cases h
def gPow : W → W → Option W
  | (_, .int i), (_, .int j) => if 0 ≤ j ∧ j ≤ 1000 ∧ i.natAbs < 2 ^ 64 then some (0, .int (i ^ j.toNat)) else none
  | _, _ => none
theorem g_pow : Op2 K (rI CPow fun i j => .int (i ^ j.toNat)) gPow := g_int2 fun u v w h => by
  unfold gPow at h; split at h
  · split at h
    · rename_i hc
      cases h; exact ⟨_, _, _, _, rfl, rfl, ⟨hc.1, by omega, hc.2.2⟩, rfl⟩
    · cases h
  · cases h
def gNeg : W → Option W
  | (_, .int i) => some (0, .int (-i))
  | _ => none
theorem g_neg : Op1 K (rU fun i => .int (-i)) gNeg := by
  intro G H u x Fu w e ru hw
  unfold gNeg at hw; split at hw
  · cases hw
    obtain rfl := ru.int
    exact Res.pure e rfl fun Q q => ⟨_, rfl, q⟩
  · cases hw
/-! ### comparisons -/
def gCmpI (p : Int → Int → Bool) : W → W → Option W
  | (_, .int i), (_, .int j) => some (0, .bl (p i j))
  | _, _ => none
theorem g_cmpI {p : Int → Int → Bool} : Op2 K (rI0 fun i j => .bl (p i j)) (gCmpI p) := by
  intro G H u v x y Fu Fv w e ru rv hw
  unfold gCmpI at hw; split at hw
  · cases hw
    obtain rfl := ru.int
    obtain rfl := rv.int
    exact Res.pure e rfl fun Q q => ⟨_, _, rfl, rfl, q⟩
  · cases hw
/-- scalars -/
def gEqS : D → D → Option Bool
  | .int i, .int j => some (decide (i = j))
  | .str i, .str j => some (decide (i = j))
  | .bl i, .bl j => some (decide (i = j))
  | .non, .non => some true
  | .non, .int _ => some false
  | .int _, .non => some false
  | .non, .str _ => some false
  | .str _, .non => some false
  | .non, .bl _ => some false
  | .bl _, .non => some false
  | .int _, .str _ => some false
  | .str _, .int _ => some false
  | .bl _, .str _ => some false
  | .str _, .bl _ => some false
  | _, _ => none
mutual
def toPy : D → Option PyData
  | .non => some .none
  | .bl b => some (.bool b)
  | .int i => some (.int i)
  | .str s => some (.str s)
  | .tup ds => (toPys ds).map .tuple
  | .lst ds => (toPys ds).map .list
  | .dct _ _ => none
  | .scr _ => none
  | .ktp ds => (toPys ds).map .tuple
def toPys : List D → Option (List PyData)
  | [] => some []
  | d :: ds => (toPy d).bind fun p => (toPys ds).map fun ps => p :: ps
end
def gEqP (p q : PyData) : Option Bool := if SeqAt.shaped p = true ∧ SeqAt.shaped q = true then some (PyData.eqv p q) else none
def gEqD (c d : D) : Option Bool := match gEqS c d with
  | some b => some b
  | none => (toPy c).bind fun p => (toPy d).bind fun q => gEqP p q
/-- lists are compared where their items are frozen -/
def eqOk (w : W) : Bool := decide (w.1 ≤ 1) || !isBox w.2
def gEq (u v : W) : Option W := if eqOk u && eqOk v then (gEqD u.2 v.2).map fun b => (0, .bl b) else none
def gNe (u v : W) : Option W := if eqOk u && eqOk v then (gEqD u.2 v.2).map fun b => (0, .bl (!b)) else none
theorem scal_of {c d : D} {b : Bool} (h : gEqS c d = some b) : ∀ {k l : Nat} {x y : V} {Fu Fv : List Addr}, RO K G H k c x Fu → RO K G H l d y Fv → scal x y = true ∧ decide (x = y) = b := by
  intro k l x y Fu Fv ru rv
  unfold gEqS at h
  split at h <;> first
    | (cases h; obtain rfl := ru.int; obtain rfl := rv.int; exact ⟨rfl, by simp⟩)
    | (cases h; obtain rfl := ru.str; obtain rfl := rv.str; exact ⟨rfl, by simp⟩)
    | (cases h; obtain rfl := ru.bl; obtain rfl := rv.bl; exact ⟨rfl, by simp⟩)
    | (cases h; obtain rfl := ru.non; obtain rfl := rv.non; exact ⟨rfl, by simp⟩)
    | (cases h; obtain rfl := ru.non; obtain rfl := rv.int; exact ⟨rfl, by simp⟩)
    | (cases h; obtain rfl := ru.int; obtain rfl := rv.non; exact ⟨rfl, by simp⟩)
    | (cases h; obtain rfl := ru.non; obtain rfl := rv.str; exact ⟨rfl, by simp⟩)
    | (cases h; obtain rfl := ru.str; obtain rfl := rv.non; exact ⟨rfl, by simp⟩)
    | (cases h; obtain rfl := ru.non; obtain rfl := rv.bl; exact ⟨rfl, by simp⟩)
    | (cases h; obtain rfl := ru.bl; obtain rfl := rv.non; exact ⟨rfl, by simp⟩)
    | (cases h; obtain rfl := ru.int; obtain rfl := rv.str; exact ⟨rfl, by simp⟩)
    | (cases h; obtain rfl := ru.str; obtain rfl := rv.int; exact ⟨rfl, by simp⟩)
    | (cases h; obtain rfl := ru.bl; obtain rfl := rv.str; exact ⟨rfl, by simp⟩)
    | (cases h; obtain rfl := ru.str; obtain rfl := rv.bl; exact ⟨rfl, by simp⟩)
    | cases h
mutual
theorem dp_of (e : Same G H) : ∀ (d : D) (p : PyData) (v : V), toPy d = some p → RepF K G d v → Dp K H v p
  | .non, _, _, h, r => by cases h; cases r; exact .non
  | .bl b, _, _, h, r => by cases h; cases r; exact .bl b
  | .int i, _, _, h, r => by cases h; cases r; exact .int i
  | .str s, _, _, h, r => by cases h; cases r; exact .str s
  | .tup ds, _, _, h, ⟨a, xs, h1, h2, h3⟩ => by
    obtain ⟨ps, hp, rfl⟩ := Option.map_eq_some_iff.mp h
    subst h1
    exact .tup (SqT.of (e _ _ h2)) (dps_of e ds ps xs hp h3)
  | .lst ds, _, _, h, ⟨a, xs, h1, h2, h3⟩ => by
    obtain ⟨ps, hp, rfl⟩ := Option.map_eq_some_iff.mp h
    subst h1
    exact .lst (.inl (.inl (e _ _ h2))) (dps_of e ds ps xs hp h3)
  | .dct _ _, _, _, h, _ => by cases h
  | .scr _, _, _, h, _ => by cases h
  | .ktp ds, _, _, h, ⟨a, xs, h1, h2, h3⟩ => by
    obtain ⟨ps, hp, rfl⟩ := Option.map_eq_some_iff.mp h
    subst h1
    exact .tup (same_t e h2.sq) (dps_of e ds ps xs hp h3)
theorem dps_of (e : Same G H) : ∀ (ds : List D) (ps : List PyData) (xs : List V), toPys ds = some ps → RepFs K G ds xs → DpAll K H xs ps
  | [], _, _, h, r => by cases h; cases r; exact .nil
  | d :: ds, _, _, h, ⟨x, r, h1, h2, h3⟩ => by
    obtain ⟨p, hp, h⟩ := Option.bind_eq_some_iff.mp h
    obtain ⟨ps, hps, rfl⟩ := Option.map_eq_some_iff.mp h
    subst h1
    exact .cons (dp_of e d p x hp h2) (dps_of e ds ps r hps h3)
end
theorem dp_ro (e : Same G H) {k : Nat} {d : D} {p : PyData} {v : V} {F : List Addr} (hk : eqOk (k, d) = true) (h : toPy d = some p) (r : RO K G H k d v F) : Dp K H v p := by
  by_cases hb : isBox d = true
  · have hk1 : k ≤ 1 := by
      unfold eqOk at hk
      simp only [hb, Bool.not_true, Bool.or_false, decide_eq_true_eq] at hk
      exact hk
    cases d <;> first | (cases hb; done) | skip
    · rename_i ds
      obtain ⟨a, xs, rfl, h1, h2⟩ := r.lst1 e hk1
      obtain ⟨ps, hp, rfl⟩ := Option.map_eq_some_iff.mp h
      exact .lst (.inl (.inl h1)) (dps_of e ds ps xs hp h2)
    · cases h
  · exact dp_of e d p v h (RO.plain (by simpa using hb) r).1
def rEqA (K : PySem.W.Frag) : R2 := fun x y H Q => rEq x y H Q ∨ rEqD K x y H Q
def rNeA (K : PySem.W.Frag) : R2 := fun x y H Q => rNe x y H Q ∨ rNeD K x y H Q
theorem op_eqA {X : Cx} (hu : X.A.units + 64 < cLine) : OpR X (compareOp .Eq) (rEqA X.K) := OpR.or op_eq (op_eqD hu)
theorem op_neA {X : Cx} (hu : X.A.units + 64 < cLine) : OpR X (compareOp .NotEq) (rNeA X.K) := OpR.or op_ne (op_neD hu)
theorem eq_core {u v : W} {x y : V} {Fu Fv : List Addr} {b : Bool} (e : Same G H) (ru : RO K G H u.1 u.2 x Fu) (rv : RO K G H v.1 v.2 y Fv) (ok : (eqOk u && eqOk v) = true) (h : gEqD u.2 v.2 = some b) :
    (scal x y = true ∧ decide (x = y) = b) ∨ ∃ d c, Dp K H x d ∧ Dp K H y c ∧ SeqAt.shaped d = true ∧ SeqAt.shaped c = true ∧ PyData.eqv d c = b := by
  obtain ⟨k, c⟩ := u
  obtain ⟨l, d⟩ := v
  rw [Bool.and_eq_true] at ok
  unfold gEqD at h
  split at h
  · rename_i b' hs
    cases h
    exact .inl (scal_of hs ru rv)
  · obtain ⟨p, hp, h⟩ := Option.bind_eq_some_iff.mp h
    obtain ⟨q, hq, h⟩ := Option.bind_eq_some_iff.mp h
    unfold gEqP at h
    split at h
    · rename_i hs
      cases h
      exact .inr ⟨p, q, dp_ro e ok.1 hp ru, dp_ro e ok.2 hq rv, hs.1, hs.2, rfl⟩
    · cases h
theorem g_eq : Op2 K (rEqA K) gEq := by
  intro G H u v x y Fu Fv w e ru rv hw
  unfold gEq at hw
  split at hw
  · rename_i ok
    obtain ⟨b, hb, rfl⟩ := Option.map_eq_some_iff.mp hw
    rcases eq_core e ru rv ok hb with ⟨h1, h2⟩ | ⟨d, c, h1, h2, h3, h4, h5⟩
    · exact Res.pure (v := .bl b) e rfl fun Q q => .inl ⟨h1, by rw [h2]; exact q⟩
    · exact Res.pure (v := .bl b) e rfl fun Q q => .inr ⟨d, c, h1, h2, h3, h4, by rw [h5]; exact q⟩
  · cases hw
theorem g_ne : Op2 K (rNeA K) gNe := by
  intro G H u v x y Fu Fv w e ru rv hw
  unfold gNe at hw
  split at hw
  · rename_i ok
    obtain ⟨b, hb, rfl⟩ := Option.map_eq_some_iff.mp hw
    rcases eq_core e ru rv ok hb with ⟨h1, h2⟩ | ⟨d, c, h1, h2, h3, h4, h5⟩
    · exact Res.pure (v := .bl (!b)) e rfl fun Q q => .inl ⟨h1, by rw [h2]; exact q⟩
    · exact Res.pure (v := .bl (!b)) e rfl fun Q q => .inr ⟨d, c, h1, h2, h3, h4, by rw [h5]; exact q⟩
  · cases hw
/-- is None -/
def isNon : D → Bool
  | .non => true
  | _ => false
theorem isNon_of {k : Nat} {d : D} {x : V} {F : List Addr} (r : RO K G H k d x F) : decide (x = .non) = isNon d := by
  cases d with
  | non => obtain rfl := r.non; rfl
  | bl b => obtain rfl := r.bl; rfl
  | int b => obtain rfl := r.int; rfl
  | str b => obtain rfl := r.str; rfl
  | tup ds => obtain ⟨a, xs, rfl, _⟩ := r.tup; rfl
  | scr ns => obtain ⟨a, rfl, _⟩ := r.scr; rfl
  | ktp ns => obtain ⟨a, xs, rfl, _⟩ := r.ktp; rfl
  | lst ds =>
    cases k with
    | zero => obtain ⟨⟨a, xs, rfl, _⟩, _⟩ := r; rfl
    | succ k => obtain ⟨a, xs, F', rfl, _⟩ := r; rfl
  | dct t ds =>
    cases k with
    | zero => obtain ⟨⟨a, xs, rfl, _⟩, _⟩ := r; rfl
    | succ k => obtain ⟨a, xs, F', rfl, _⟩ := r; rfl
def gIsN : W → W → Option W
  | (_, d), (_, .non) => some (0, .bl (isNon d))
  | _, _ => none
def gNotN : W → W → Option W
  | (_, d), (_, .non) => some (0, .bl (!isNon d))
  | _, _ => none
theorem g_isN : Op2 K (fun x y H Q => y = .non ∧ Q (.bl (decide (x = .non))) H) gIsN := by
  intro G H u v x y Fu Fv w e ru rv hw
  unfold gIsN at hw; split at hw
  · cases hw
    obtain rfl := rv.non
    exact Res.pure (v := .bl _) e rfl fun Q q => ⟨rfl, by rw [isNon_of ru]; exact q⟩
  · cases hw
theorem g_notN : Op2 K (fun x y H Q => y = .non ∧ Q (.bl (!decide (x = .non))) H) gNotN := by
  intro G H u v x y Fu Fv w e ru rv hw
  unfold gNotN at hw; split at hw
  · cases hw
    obtain rfl := rv.non
    exact Res.pure (v := .bl _) e rfl fun Q q => ⟨rfl, by rw [isNon_of ru]; exact q⟩
  · cases hw
/-! ### xs[i], xs[a:b] -/
theorem atI_rep {ds : List D} {xs : List V} {i : Int} {d : D} (h : RepFs K G ds xs) (e : atI ds i = some d) : ∃ x, atI xs i = some x ∧ RepF K G d x := by
  unfold atI at e ⊢
  rw [h.len]
  obtain ⟨j, hj, e⟩ := Option.bind_eq_some_iff.mp e
  obtain ⟨x, h1, h2⟩ := h.get e
  exact ⟨x, by rw [hj]; exact h1, h2⟩
theorem atI_map {α β : Type} {f : α → β} {xs : List α} {i : Int} {a : α} (e : atI xs i = some a) : atI (xs.map f) i = some (f a) := by
  unfold atI at e ⊢
  rw [List.length_map]
  obtain ⟨j, hj, e⟩ := Option.bind_eq_some_iff.mp e
  rw [hj]
  show (xs.map f)[j]? = some (f a)
  rw [List.getElem?_map, e]; rfl
def gIx : W → W → Option W
  | (k, .lst ds), (_, .int i) => if k ≤ 1 then (atI ds i).map fun d => (0, d) else none
  | (_, .tup ds), (_, .int i) => (atI ds i).map fun d => (0, d)
  | (_, .ktp ds), (_, .int i) => (atI ds i).map fun d => (0, d)
  | (_, .scr ns), (_, .int i) => (atI ns i).map fun n => (0, .int n)
  | (_, .str z), (_, .int i) => if z.length ≤ big then (atI z.cps.toList i).map fun c => (0, .str ⟨#[c]⟩) else none
  | _, _ => none
theorem g_ix : Op2 K (rIx K) gIx := by
  intro G H u v x y Fu Fv w e ru rv hw
  unfold gIx at hw; split at hw
  · split at hw
    · rename_i hk
      obtain ⟨d, hd, rfl⟩ := Option.map_eq_some_iff.mp hw
      obtain rfl := rv.int
      obtain ⟨a, xs, rfl, h1, h2⟩ := ru.lst1 e hk
      obtain ⟨z, h3, h4⟩ := atI_rep h2 hd
      exact Res.pure e h4 fun Q q => .inl ⟨a, xs, _, z, rfl, rfl, SqL.of h1, h3, q⟩
    · cases hw
  · obtain ⟨d, hd, rfl⟩ := Option.map_eq_some_iff.mp hw
    obtain rfl := rv.int
    obtain ⟨a, xs, rfl, h1, h2⟩ := ru.tup
    obtain ⟨z, h3, h4⟩ := atI_rep h2 hd
    exact Res.pure e h4 fun Q q => .inr (.inl ⟨a, xs, _, z, rfl, rfl, same_t e h1, h3, q⟩)
  · obtain ⟨d, hd, rfl⟩ := Option.map_eq_some_iff.mp hw
    obtain rfl := rv.int
    obtain ⟨a, xs, rfl, h1, h2⟩ := ru.ktp
    obtain ⟨z, h3, h4⟩ := atI_rep h2 hd
    exact Res.pure e h4 fun Q q => .inr (.inl ⟨a, xs, _, z, rfl, rfl, same_t e h1.sq, h3, q⟩)
  · obtain ⟨d, hd, rfl⟩ := Option.map_eq_some_iff.mp hw
    obtain rfl := rv.int
    obtain ⟨a, rfl, h1⟩ := ru.scr
    exact Res.pure (v := .int d) e rfl fun Q q => .inl ⟨a, _, _, .int d, rfl, rfl, same_l e h1, atI_map hd, q⟩
  · split at hw
    · rename_i hz
      obtain ⟨d, hd, rfl⟩ := Option.map_eq_some_iff.mp hw
      obtain rfl := rv.int
      obtain rfl := ru.str
      exact Res.pure (v := .str ⟨#[d]⟩) e rfl fun Q q => .inr (.inr ⟨_, _, _, rfl, rfl, big_line hz, hd, q⟩)
    · cases hw
  · cases hw
def cutL {α : Type} (xs : List α) (lo hi : Option Int) : List α := (xs.drop (HT.sIx xs.length 0 lo)).take (HT.sIx xs.length xs.length hi - HT.sIx xs.length 0 lo)
theorem cut_rep {ds : List D} {xs : List V} {lo hi : Option Int} (h : RepFs K G ds xs) : RepFs K G (cutL ds lo hi) (cutV xs lo hi) := by
  unfold cutL cutV
  rw [h.len]
  exact (h.drop _).take _
theorem cutL_whole {α : Type} {xs : List α} {lo hi : Option Int} (h : HT.sIx xs.length 0 lo = 0 ∧ HT.sIx xs.length xs.length hi = xs.length) : cutL xs lo hi = xs := by
  unfold cutL
  rw [h.1, h.2]
  simp
end
end Pv
set_option Elab.async false
set_option linter.all false
set_option maxRecDepth 100000
/-! P5: slices, arguments, displays, builtins, tests -/
namespace Pv
open PySem PySem.Spec PyProof.Rows L2
section
variable {X : Cx} {K : PySem.W.Frag} {G0 G G' H H' : Hp} {σ : L2.St} {ρ : Env} {e a b c : Expr} {es : List Expr} {pos : Pos} {A B C : Fe} {T : Fb}
/-! ### slices -/
def oNone : Fo := fun _ => some none
def oSome (A : Fe) : Fo := fun ρ => (val A ρ).bind fun w => match w.2 with | .int i => some (some i) | _ => none
theorem o_none : OkO X none oNone := PO.imp po_none fun σ H Q ⟨G0, ρ, ws, o, I, hf, q⟩ => by
  cases hf
  exact q H I
theorem o_some (h : OkE X e A) : OkO X (some e) (oSome A) := PO.imp (po_some h) fun σ H Q ⟨G0, ρ, ws, o, I, hf, q⟩ => by
  obtain ⟨w, hw, hf⟩ := Option.bind_eq_some_iff.mp hf
  obtain ⟨x, hx, hg⟩ := val_some hw
  refine ⟨G0, ρ, ws, x, I, hx, fun v H' I' => ?_⟩
  obtain ⟨G, F1, F2, J⟩ := I'
  obtain ⟨Fx, r⟩ := J.top hg
  obtain ⟨k, d⟩ := w
  cases d <;> first | (cases hf; done) | skip
  rename_i i
  cases hf
  exact ⟨i, r.int, q H' (SI.drop ⟨G, F1, F2, J⟩)⟩
def gSl : W → Option Int → Option Int → Option W
  | (k, .lst ds), lo, hi => if k ≤ 1 then some (1, .lst (cutL ds lo hi)) else none
  | (_, .tup ds), lo, hi => some (0, .tup (cutL ds lo hi))
  | (_, .str z), lo, hi => if z.length ≤ big then some (0, .str (cutS z lo hi)) else none
  | _, _, _ => none
def rSlAll (K : PySem.W.Frag) : V → Option Int → Option Int → Hp → VK → Prop := fun x lo hi H Q => rSlL K x lo hi H Q ∨ rSlA K x lo hi H Q ∨ rSlS x lo hi H Q
theorem sl_all : SlR X (rSlAll X.K) := SlR.or sl_list (SlR.or sl_tupA sl_str)
theorem g_sl {lo hi : Option Int} {u w : W} {x : V} {Fu : List Addr} (e : Same G H) (ru : RO K G H u.1 u.2 x Fu) (hw : gSl u lo hi = some w) : Res K G H w (rSlAll K x lo hi H) := by
  unfold gSl at hw; split at hw
  · split at hw
    · rename_i hk
      cases hw
      obtain ⟨a, xs, rfl, h1, h2⟩ := ru.lst1 e hk
      exact Res.lst e (cut_rep h2) fun Q q => .inl ⟨a, xs, rfl, SqL.of h1, q⟩
    · cases hw
  · cases hw
    obtain ⟨a, xs, rfl, h1, h2⟩ := ru.tupE
    intro Q q
    refine .inr (.inl ⟨a, xs, rfl, SqT.of (e _ _ h1), fun z => ?_, fun z p hp => ?_⟩)
    · rw [h2.len] at z
      rw [cutL_whole z] at q
      exact q _ H G [] (Grow.refl e) ⟨⟨a, xs, rfl, h1, h2⟩, rfl⟩
    · have g := Grow.newF (o := .tup (cutV xs lo hi)) e hp
      exact q _ _ _ [] g ⟨⟨p, _, rfl, upd_same, RepFs.mono g.gg _ _ (cut_rep h2)⟩, rfl⟩
  · split at hw
    · rename_i hz
      cases hw
      obtain rfl := ru.str
      exact Res.pure e rfl fun Q q => .inr (.inr ⟨_, rfl, big_line hz, q⟩)
    · cases hw
  · cases hw
def pSl (A : Fe) (lo hi : Fo) : Fe := fun ρ => (val A ρ).bind fun u => (lo ρ).bind fun l => (hi ρ).bind fun h => (gSl u l h).map fun w => .v w.1 w.2
theorem e_sl {lo hi : Option Expr} {L U : Fo} {p2 : Pos} (h : OkE X e A) (hl : OkO X lo L) (hu : OkO X hi U) : OkE X (.Subscript e (.Slice lo hi none p2) pos) (pSl A L U) := PE.imp (pe_slice sl_all h hl hu) fun σ H Q ⟨G0, ρ, ws, x, I, hf, q⟩ => by
  obtain ⟨u, hu, hf⟩ := Option.bind_eq_some_iff.mp hf
  obtain ⟨l, hl, hf⟩ := Option.bind_eq_some_iff.mp hf
  obtain ⟨h, hh, hf⟩ := Option.bind_eq_some_iff.mp hf
  obtain ⟨w, hw, rfl⟩ := Option.map_eq_some_iff.mp hf
  obtain ⟨a1, ha, hg1⟩ := val_some hu
  refine ⟨G0, ρ, ws, a1, I, ha, fun x H1 I1 => ⟨G0, ρ, (x, a1) :: ws, l, I1, hl, fun H2 I2 => ⟨G0, ρ, (x, a1) :: ws, h, I2, hh, fun H3 I3 => ?_⟩⟩⟩
  obtain ⟨G, F1, F2, J⟩ := I3
  obtain ⟨Fx, rx⟩ := J.top hg1
  refine g_sl J.ex rx hw Q fun v H' G' F' gr rv => ?_
  obtain ⟨F2', _, J'⟩ := J.drop
  exact q v H' (J'.push gr rv).SI
/-! ### argument lists, displays -/
def aNil : Fa := fun _ => some []
def aCons (A : Fe) (B : Fa) : Fa := fun ρ => (A ρ).bind fun a => (B ρ).map fun as => a :: as
theorem a_nil : OkA X [] aNil := PA.imp pa_nil fun σ H Q ⟨G0, ρ, ws, as, I, hf, q⟩ => by
  cases hf
  exact q [] H rfl I
theorem a_cons {B : Fa} (ha : OkE X e A) (hr : OkA X es B) (hs : starEach (e :: es) X.env = (false, eval e X.env) :: starEach es X.env := by rfl) : OkA X (e :: es) (aCons A B) := PA.imp (pa_cons ha hr hs) fun σ H Q ⟨G0, ρ, ws, as, I, hf, q⟩ => by
  obtain ⟨x, hx, hf⟩ := Option.bind_eq_some_iff.mp hf
  obtain ⟨xs, hxs, rfl⟩ := Option.map_eq_some_iff.mp hf
  refine ⟨G0, ρ, ws, x, I, hx, fun v H1 I1 => ⟨G0, ρ, (v, x) :: ws, xs, I1, hxs, fun vs H2 hl I2 => ?_⟩⟩
  refine q (v :: vs) H2 (by rw [List.length_cons, List.length_cons, hl]) ?_
  rw [List.zip_cons_cons, List.reverse_cons, List.append_assoc]
  exact I2
/-- the waiting values ahead are taken off -/
theorem Si.dropN : ∀ (pre : List (V × Arg)) {ws : List (V × Arg)} {F1 F2 : List Addr}, Si K G0 σ ρ (pre ++ ws) H G F1 F2 → ∃ F2', Si K G0 σ ρ ws H G F1 F2'
  | [], ws, F1, F2, I => ⟨F2, I⟩
  | (x, a) :: pre, ws, F1, F2, I => by
    obtain ⟨F2', _, I'⟩ := Si.drop I
    exact Si.dropN pre I'
theorem Si.mem : ∀ (pre : List (V × Arg)) {ws : List (V × Arg)} {F1 F2 : List Addr}, Si K G0 σ ρ (pre ++ ws) H G F1 F2 → ∀ x a w, (x, a) ∈ pre → a.get ρ = some w → ∃ Fx, RO K G H w.1 w.2 x Fx
  | [], ws, F1, F2, I, _, _, _, h, _ => by cases h
  | (y, b) :: pre, ws, F1, F2, I, x, a, w, h, hg => by
    rcases List.mem_cons.mp h with e | h
    · cases e
      exact Si.top I hg
    · obtain ⟨F2', _, I'⟩ := Si.drop I
      exact Si.mem pre I' x a w h hg
/-- the data of arguments -/
def getAll (ρ : Env) : List Arg → Option (List W)
  | [] => some []
  | a :: as => (a.get ρ).bind fun w => (getAll ρ as).map fun ws => w :: ws
def ROW (K : PySem.W.Frag) (G H : Hp) : List W → List V → Prop
  | [], xs => xs = []
  | u :: us, xs => ∃ x r F, xs = x :: r ∧ RO K G H u.1 u.2 x F ∧ ROW K G H us r
theorem row_of : ∀ (as : List Arg) (vs : List V) (us : List W), vs.length = as.length → getAll ρ as = some us → (∀ x a w, (x, a) ∈ vs.zip as → a.get ρ = some w → ∃ Fx, RO K G H w.1 w.2 x Fx) → ROW K G H us vs
  | [], vs, us, hl, hg, _ => by
    cases hg
    exact List.eq_nil_of_length_eq_zero hl
  | a :: as, [], us, hl, _, _ => by simp at hl
  | a :: as, v :: vs, us, hl, hg, f => by
    obtain ⟨w, hw, hg⟩ := Option.bind_eq_some_iff.mp hg
    obtain ⟨ws, hws, rfl⟩ := Option.map_eq_some_iff.mp hg
    obtain ⟨F, hF⟩ := f v a w (by rw [List.zip_cons_cons]; exact List.mem_cons_self) hw
    exact ⟨v, vs, F, rfl, hF, row_of as vs ws (by simpa using hl) hws fun x b w' hm hg' => f x b w' (by rw [List.zip_cons_cons]; exact List.mem_cons_of_mem _ hm) hg'⟩
theorem Si.rows {vs : List V} {as : List Arg} {us : List W} {ws : List (V × Arg)} {F1 F2 : List Addr} (I : Si K G0 σ ρ ((vs.zip as).reverse ++ ws) H G F1 F2) (hl : vs.length = as.length) (hg : getAll ρ as = some us) : ROW K G H us vs :=
  row_of as vs us hl hg fun x a w hm h => Si.mem _ I x a w (List.mem_reverse.mpr hm) h
/-- a call with values -/
def OpN (K : PySem.W.Frag) (r : List V → Hp → VK → Prop) (g : List W → Option W) : Prop := ∀ G H us xs w, Same G H → ROW K G H us xs → g us = some w → Res K G H w (r xs H)
def pCall (g : List W → Option W) (A : Fa) : Fe := fun ρ => (A ρ).bind fun as => (getAll ρ as).bind fun us => (g us).map fun w => .v w.1 w.2
theorem opN_imp {r : List V → Hp → VK → Prop} {g : List W → Option W} {B : Fa} (hg : OpN K r g) (σ : L2.St) (H : Hp) (Q : VK) (h : tE K (pCall g B) σ H Q) : tA K B σ H fun xs H1 => r xs H1 Q := by
  obtain ⟨G0, ρ, ws, a, I, hf, q⟩ := h
  obtain ⟨as, has, hf⟩ := Option.bind_eq_some_iff.mp hf
  obtain ⟨us, hus, hf⟩ := Option.bind_eq_some_iff.mp hf
  obtain ⟨w, hw, rfl⟩ := Option.map_eq_some_iff.mp hf
  refine ⟨G0, ρ, ws, as, I, has, fun vs H1 hl I1 => ?_⟩
  obtain ⟨G, F1, F2, J⟩ := I1
  refine hg G H1 us vs w J.ex (J.rows hl hus) hw Q fun v H' G' F' gr rv => ?_
  obtain ⟨F2', J'⟩ := Si.dropN _ J
  exact q v H' (J'.push gr rv).SI
/-- items of a display: frozen -/
def ownAll : List Arg → Option (List D)
  | [] => some []
  | .v _ d :: as => (ownAll as).map fun ds => d :: ds
  | .r _ :: _ => none
theorem Si.freezeN : ∀ (as : List Arg) (vs : List V) (ds : List D) {ws : List (V × Arg)} {G : Hp} {F1 F2 : List Addr}, vs.length = as.length → ownAll as = some ds → Si K G0 σ ρ (vs.zip as ++ ws) H G F1 F2 →
    ∃ G' F2', Si K G0 σ ρ ws H G' F1 F2' ∧ Same G G' ∧ RepFs K G' ds vs
  | [], vs, ds, ws, G, F1, F2, hl, ho, I => by
    cases ho
    obtain rfl := List.eq_nil_of_length_eq_zero hl
    exact ⟨G, F2, I, Same.refl _, rfl⟩
  | .r _ :: as, vs, ds, ws, G, F1, F2, hl, ho, I => by cases ho
  | .v k d :: as, [], ds, ws, G, F1, F2, hl, ho, I => by simp at hl
  | .v k d :: as, v :: vs, ds, ws, G, F1, F2, hl, ho, I => by
    obtain ⟨ds', hd, rfl⟩ := Option.map_eq_some_iff.mp ho
    obtain ⟨G1, F3, I1, e1, r1⟩ := Si.freeze I
    obtain ⟨G2, F4, I2, e2, r2⟩ := Si.freezeN as vs ds' (by simpa using hl) hd I1
    exact ⟨G2, F4, I2, e1.trans e2, v, vs, rfl, RepF.mono e2 _ _ r1, r2⟩
theorem perm_nodup {l1 l2 : List Addr} (h : l1.Perm l2) (n : l1.Nodup) : l2.Nodup := h.nodup_iff.mp n
theorem RWs.perm {pre pre' : List (V × Arg)} (h : pre.Perm pre') : ∀ {F : List Addr}, RWs K G H σ ρ pre F → ∃ F', F.Perm F' ∧ RWs K G H σ ρ pre' F' := by
  induction h with
  | nil => intro F h; exact ⟨F, .refl _, h⟩
  | @cons p l1 l2 _ ih =>
    obtain ⟨x, a⟩ := p
    intro F h
    cases a with
    | v k d =>
      obtain ⟨Fa, Fb, h2, h3, h4⟩ := h
      obtain ⟨Fc, hp, hc⟩ := ih h4
      subst h2
      exact ⟨Fa ++ Fc, hp.append_left Fa, Fa, Fc, rfl, h3, hc⟩
    | r i =>
      obtain ⟨h1, h2, h3⟩ := h
      obtain ⟨Fc, hp, hc⟩ := ih h3
      exact ⟨Fc, hp, h1, h2, hc⟩
  | @swap p q l =>
    obtain ⟨x, a⟩ := p
    obtain ⟨y, b⟩ := q
    intro F h
    cases b with
    | v k d =>
      obtain ⟨Fa, Fb, h2, h3, h4⟩ := h
      subst h2
      cases a with
      | v k' d' =>
        obtain ⟨Fc, Fd, h5, h6, h7⟩ := h4
        subst h5
        refine ⟨Fc ++ (Fa ++ Fd), ?_, Fc, Fa ++ Fd, rfl, h6, Fa, Fd, rfl, h3, h7⟩
        rw [← List.append_assoc, ← List.append_assoc]
        exact List.perm_append_comm.append_right Fd
      | r i =>
        obtain ⟨h5, h6, h7⟩ := h4
        exact ⟨Fa ++ Fb, .refl _, h5, h6, Fa, Fb, rfl, h3, h7⟩
    | r i =>
      obtain ⟨h1, h2, h4⟩ := h
      cases a with
      | v k' d' =>
        obtain ⟨Fc, Fd, h5, h6, h7⟩ := h4
        exact ⟨F, .refl _, Fc, Fd, h5, h6, h1, h2, h7⟩
      | r j =>
        obtain ⟨h5, h6, h7⟩ := h4
        exact ⟨F, .refl _, h5, h6, h1, h2, h7⟩
  | trans _ _ ih1 ih2 =>
    intro F h
    obtain ⟨F1, p1, h1⟩ := ih1 h
    obtain ⟨F2, p2, h2⟩ := ih2 h1
    exact ⟨F2, p1.trans p2, h2⟩
theorem Si.perm {ws ws' : List (V × Arg)} {F1 F2 : List Addr} (h : ws.Perm ws') (I : Si K G0 σ ρ ws H G F1 F2) : ∃ F2', Si K G0 σ ρ ws' H G F1 F2' := by
  obtain ⟨F2', hp, h'⟩ := RWs.perm h I.wv
  refine ⟨F2', I.ex0, I.ex, I.sl, h', perm_nodup (hp.append_left F1) I.nd, fun a ha => I.fr a ?_, I.tu, I.ln⟩
  exact (hp.append_left F1).mem_iff.mpr ha
def pTup (A : Fa) : Fe := fun ρ => (A ρ).bind fun as => if as.length ≤ 1000 then (ownAll as).map fun ds => .v 0 (.tup ds) else none
def pLst (A : Fa) : Fe := fun ρ => (A ρ).bind fun as => if as.length ≤ 1000 then (ownAll as).map fun ds => .v 1 (.lst ds) else none
theorem e_tup {B : Fa} {x1} (h : OkA X es B) : OkE X (.Tuple es x1 pos) (pTup B) := PE.imp (pe_tup h) fun σ H Q ⟨G0, ρ, ws, a, I, hf, q⟩ => by
  obtain ⟨as, has, hf⟩ := Option.bind_eq_some_iff.mp hf
  split at hf
  · rename_i hz
    obtain ⟨ds, hd, rfl⟩ := Option.map_eq_some_iff.mp hf
    refine ⟨G0, ρ, ws, as, I, has, fun vs H1 hl I1 => ⟨by rw [hl]; exact Nat.le_trans hz (by decide), fun p hp => ?_⟩⟩
    obtain ⟨G, F1, F2, J⟩ := I1
    obtain ⟨F3, J⟩ := Si.perm ((List.reverse_perm _).append_right ws) J
    obtain ⟨G1, F4, J1, e1, r1⟩ := Si.freezeN as vs ds hl hd J
    have g := Grow.newF (o := .tup vs) J1.ex hp
    exact q _ _ (J1.push (k := 0) (d := .tup ds) g ⟨⟨p, vs, rfl, upd_same, RepFs.mono g.gg _ _ r1⟩, rfl⟩).SI
  · cases hf
theorem e_lst {B : Fa} (h : OkA X es B) : OkE X (.List es pos) (pLst B) := PE.imp (pe_lst h) fun σ H Q ⟨G0, ρ, ws, a, I, hf, q⟩ => by
  obtain ⟨as, has, hf⟩ := Option.bind_eq_some_iff.mp hf
  split at hf
  · rename_i hz
    obtain ⟨ds, hd, rfl⟩ := Option.map_eq_some_iff.mp hf
    refine ⟨G0, ρ, ws, as, I, has, fun vs H1 hl I1 => ⟨by rw [hl]; exact Nat.le_trans hz (by decide), fun p hp => ?_⟩⟩
    obtain ⟨G, F1, F2, J⟩ := I1
    obtain ⟨F3, J⟩ := Si.perm ((List.reverse_perm _).append_right ws) J
    obtain ⟨G1, F4, J1, e1, r1⟩ := Si.freezeN as vs ds hl hd J
    have g := Grow.newO (o := .lst vs) J1.ex hp trivial
    exact q _ _ (J1.push (k := 1) (d := .lst ds) g ⟨p, vs, [], rfl, upd_same, rfl, ROs.of_F r1⟩).SI
  · cases hf
/-- a builtin function, a builtin class, called by its name -/
theorem e_bi {x : Str} {p : Pos} {id : String} {r : List V → Hp → VK → Prop} {g : List W → Option W} {B : Fa} (hc : CallR X (.builtin id) r) (ho : OpN X.K r g) (hg : Gl X x) (hm : X.mg x = none) (hv : bootBuiltins x = some (.builtin id)) (ha : OkA X (e :: es) B)
    (hn : x ≠ "__name__" := by decide) (hd : (x == ("__debug__" : Str)) = false := by decide) (hs : starEach (e :: es) X.env = (false, eval e X.env) :: starEach es X.env := by rfl) (hp : (backTo pos (starEach es X.env)).any (·.1) = false := by rfl) :
    OkE X (.Call (.Name x p) (e :: es) [] pos) (pCall g B) := PE.imp (pe_callB hc hg hm hv ha hn hd hs hp) (opN_imp ho)
theorem e_ty {x : Str} {p : Pos} {T : String} {r : List V → Hp → VK → Prop} {g : List W → Option W} {B : Fa} (hc : CallR X (.type T) r) (ho : OpN X.K r g) (hg : Gl X x) (hm : X.mg x = none) (hv : bootBuiltins x = some (.type T)) (ha : OkA X (e :: es) B)
    (hn : x ≠ "__name__" := by decide) (hd : (x == ("__debug__" : Str)) = false := by decide) (hs : starEach (e :: es) X.env = (false, eval e X.env) :: starEach es X.env := by rfl) (hp : (backTo pos (starEach es X.env)).any (·.1) = false := by rfl) :
    OkE X (.Call (.Name x p) (e :: es) [] pos) (pCall g B) := PE.imp (pe_callTy hc hg hm hv ha hn hd hs hp) (opN_imp ho)
theorem ROW.one {u : W} {xs : List V} (h : ROW K G H [u] xs) : ∃ x F, xs = [x] ∧ RO K G H u.1 u.2 x F := by
  obtain ⟨x, r, F, h1, h2, h3⟩ := h
  exact ⟨x, F, by rw [h1, show r = [] from h3], h2⟩
theorem ROW.two {u v : W} {xs : List V} (h : ROW K G H [u, v] xs) : ∃ x y F F', xs = [x, y] ∧ RO K G H u.1 u.2 x F ∧ RO K G H v.1 v.2 y F' := by
  obtain ⟨x, r, F, h1, h2, h3⟩ := h
  obtain ⟨y, F', rfl, h4⟩ := ROW.one h3
  exact ⟨x, y, F, F', h1, h2, h4⟩
def on1 (g : W → Option W) : List W → Option W
  | [u] => g u
  | _ => none
def on2 (g : W → W → Option W) : List W → Option W
  | [u, v] => g u v
  | _ => none
theorem opN_1 {r : List V → Hp → VK → Prop} {g : W → Option W} (h : Op1 K (fun x H Q => r [x] H Q) g) : OpN K r (on1 g) := by
  intro G H us xs w e hr hw
  unfold on1 at hw
  split at hw
  · obtain ⟨x, F, rfl, h1⟩ := hr.one
    exact h G H _ x F w e h1 hw
  · cases hw
theorem opN_2 {r : List V → Hp → VK → Prop} {g : W → W → Option W} (h : Op2 K (fun x y H Q => r [x, y] H Q) g) : OpN K r (on2 g) := by
  intro G H us xs w e hr hw
  unfold on2 at hw
  split at hw
  · obtain ⟨x, y, F, F', rfl, h1, h2⟩ := hr.two
    exact h G H _ _ x y F F' w e h1 h2 hw
  · cases hw
/-! ### tests -/
def truth : W → Option Bool
  | (_, .non) => some false
  | (_, .bl b) => some b
  | (_, .int i) => some (i != 0)
  | (_, .str z) => if z.length ≤ big then some ((z.length : Int) != 0) else none
  | (_, .tup ds) => some (!ds.isEmpty)
  | (_, .lst ds) => some (!ds.isEmpty)
  | _ => none
theorem empty_len {α β : Type} {xs : List α} {ys : List β} (h : xs.length = ys.length) : xs.isEmpty = ys.isEmpty := by
  cases xs <;> cases ys <;> simp at h ⊢
theorem truth_of {w : W} {x : V} {F : List Addr} {b : Bool} (e : Same G H) (r : RO K G H w.1 w.2 x F) (h : truth w = some b) : TruV K x H b := by
  unfold truth at h; split at h
  · cases h; obtain rfl := r.non; rfl
  · cases h; obtain rfl := r.bl; rfl
  · cases h; obtain rfl := r.int; rfl
  · split at h
    · rename_i hz
      cases h; obtain rfl := r.str; exact ⟨big_line hz, rfl⟩
    · cases h
  · cases h
    obtain ⟨a, xs, rfl, h1, h2⟩ := r.tup
    exact .inr (.inl ⟨xs, same_t e h1, by rw [empty_len h2.len]⟩)
  · cases h
    obtain ⟨a, xs, rfl, h1, h2⟩ := r.lstN e
    exact .inl ⟨xs, SqL.of h1, by rw [empty_len h2]⟩
  · cases h
def bTru (A : Fe) : Fb := fun ρ => (val A ρ).bind truth
def bVal (A : Fe) : Fb := fun ρ => (val A ρ).bind fun w => match w.2 with | .bl b => some b | _ => none
theorem t_tru (h : OkE X e A) (he : ∀ whole, isTrue e X.env whole = (do let v ← whole; standAt e.pos; holding [v] (truthy v)) := by exact fun _ => rfl) : OkT X e (bTru A) := PT.imp (pt_truth h he) fun σ H Q ⟨G0, ρ, ws, b, I, hf, q⟩ => by
  obtain ⟨w, hw, hf⟩ := Option.bind_eq_some_iff.mp hf
  obtain ⟨a, ha, hg⟩ := val_some hw
  refine ⟨G0, ρ, ws, a, I, ha, fun x H1 I1 => ?_⟩
  obtain ⟨G, F1, F2, J⟩ := I1
  obtain ⟨Fx, rx⟩ := J.top hg
  exact ⟨b, truth_of J.ex rx hf, q H1 (SI.drop ⟨G, F1, F2, J⟩)⟩
/-- a reading of bools, as a test -/
theorem bVal_imp {t : TE} (hi : ∀ σ H Q, tE K A σ H Q → t σ H Q) (σ : L2.St) (H : Hp) (Q : Bool → Hp → Prop) (h : tT K (bVal A) σ H Q) : t σ H fun x H' => ∃ k, x = .bl k ∧ Q k H' := by
  obtain ⟨G0, ρ, ws, b, I, hf, q⟩ := h
  obtain ⟨w, hw, hf⟩ := Option.bind_eq_some_iff.mp hf
  obtain ⟨a, ha, hg⟩ := val_some hw
  refine hi _ _ _ ⟨G0, ρ, ws, a, I, ha, fun x H1 I1 => ?_⟩
  obtain ⟨G, F1, F2, J⟩ := I1
  obtain ⟨Fx, rx⟩ := J.top hg
  obtain ⟨k, d⟩ := w
  cases d <;> first | (cases hf; done) | skip
  cases hf
  exact ⟨b, rx.bl, q H1 (SI.drop ⟨G, F1, F2, J⟩)⟩
theorem t_val (h : OkE X e A) (he : ∀ whole, isTrue e X.env whole = (do let v ← whole; standAt e.pos; holding [v] (truthy v)) := by exact fun _ => rfl) : OkT X e (bVal A) := PT.imp (pt_val h he) (bVal_imp fun _ _ _ h => h)
theorem t_cmp {op : CmpOp} {r : R2} {g : W → W → Option W} (ho : OpR X (compareOp op) r) (hg : Op2 X.K r g) (ha : OkE X a A) (hb : OkE X b B) (hm : behindInMarks op b = false := by rfl) : OkT X (.Compare a [op] [b] pos) (bVal (pOp2 g A B)) :=
  PT.imp (pt_cmpR ho ha hb hm) (bVal_imp (op2_imp hg))
def bNot (T : Fb) : Fb := fun ρ => (T ρ).map (!·)
theorem t_not (h : OkT X e T) : OkT X (.UnaryOp .Not e pos) (bNot T) := PT.imp (pt_not h) fun σ H Q ⟨G0, ρ, ws, b, I, hf, q⟩ => by
  obtain ⟨c, hc, rfl⟩ := Option.map_eq_some_iff.mp hf
  exact ⟨G0, ρ, ws, c, I, hc, q⟩
def bAnd (T U : Fb) : Fb := fun ρ => (T ρ).bind fun c => if c = true then U ρ else some false
def bOr (T U : Fb) : Fb := fun ρ => (T ρ).bind fun c => if c = true then some true else U ρ
def OkW (X : Cx) (e : Expr) (f : Fb) : Prop := PW X e (tT X.K f)
theorem OkW.t (h : OkW X e T) : OkT X e T := PW.pt h
theorem w_and1 (h : OkT X a T) : OkW X (.BoolOp .And [a] pos) T := pw_and1 h
theorem w_or1 (h : OkT X a T) : OkW X (.BoolOp .Or [a] pos) T := pw_or1 h
theorem w_and {U : Fb} {rest : List Expr} (ha : OkT X a T) (hb : OkW X (.BoolOp .And (b :: rest) pos) U) : OkW X (.BoolOp .And (a :: b :: rest) pos) (bAnd T U) := PW.imp (pw_and ha hb) fun σ H Q ⟨G0, ρ, ws, k, I, hf, q⟩ => by
  obtain ⟨c, hc, hf⟩ := Option.bind_eq_some_iff.mp hf
  refine ⟨G0, ρ, ws, c, I, hc, fun H1 I1 => ?_⟩
  cases c with
  | true => rw [if_pos rfl] at hf ⊢; exact ⟨G0, ρ, ws, k, I1, hf, q⟩
  | false => rw [if_neg Bool.false_ne_true] at hf ⊢; cases hf; exact q H1 I1
theorem w_or {U : Fb} {rest : List Expr} (ha : OkT X a T) (hb : OkW X (.BoolOp .Or (b :: rest) pos) U) : OkW X (.BoolOp .Or (a :: b :: rest) pos) (bOr T U) := PW.imp (pw_or ha hb) fun σ H Q ⟨G0, ρ, ws, k, I, hf, q⟩ => by
  obtain ⟨c, hc, hf⟩ := Option.bind_eq_some_iff.mp hf
  refine ⟨G0, ρ, ws, c, I, hc, fun H1 I1 => ?_⟩
  cases c with
  | true => rw [if_pos rfl] at hf ⊢; cases hf; exact q H1 I1
  | false => rw [if_neg Bool.false_ne_true] at hf ⊢; exact ⟨G0, ρ, ws, k, I1, hf, q⟩
/-! ### and, or, not, if as values; chains -/
def pIf (T : Fb) (A B : Fe) : Fe := fun ρ => (T ρ).bind fun c => if c = true then A ρ else B ρ
theorem e_if (hc : OkT X c T) (ha : OkE X a A) (hb : OkE X b B) : OkE X (.IfExp c a b pos) (pIf T A B) := PE.imp (pe_ifExp hc ha hb) fun σ H Q ⟨G0, ρ, ws, k, I, hf, q⟩ => by
  obtain ⟨c, hc, hf⟩ := Option.bind_eq_some_iff.mp hf
  refine ⟨G0, ρ, ws, c, I, hc, fun H1 I1 => ?_⟩
  cases c with
  | true => rw [if_pos rfl] at hf ⊢; exact ⟨G0, ρ, ws, k, I1, hf, q⟩
  | false => rw [if_neg Bool.false_ne_true] at hf ⊢; exact ⟨G0, ρ, ws, k, I1, hf, q⟩
def pAnd (A B : Fe) : Fe := fun ρ => (bVal A ρ).bind fun c => if c = true then B ρ else some (.v 0 (.bl false))
def pOr (A B : Fe) : Fe := fun ρ => (bVal A ρ).bind fun c => if c = true then some (.v 0 (.bl true)) else B ρ
theorem push_bl {G0 : Hp} {ρ : Env} {ws : List (V × Arg)} {k : Bool} (I : SI K G0 σ ρ ws H) : SI K G0 σ ρ ((.bl k, .v 0 (.bl k)) :: ws) H := by
  obtain ⟨G, F1, F2, J⟩ := I
  exact (J.pushF (d := .bl k) rfl).SI
theorem e_one {op} (h : OkE X a A) : OkE X (.BoolOp op [a] pos) A := pe_one h
theorem e_and {rest : List Expr} (ha : OkE X a A) (hb : OkE X (.BoolOp .And (b :: rest) pos) B) : OkE X (.BoolOp .And (a :: b :: rest) pos) (pAnd A B) := PE.imp (pe_and ha hb) fun σ H Q ⟨G0, ρ, ws, k, I, hf, q⟩ => by
  obtain ⟨c, hc, hf⟩ := Option.bind_eq_some_iff.mp hf
  refine bVal_imp (fun _ _ _ h => h) σ H _ ⟨G0, ρ, ws, c, I, hc, fun H1 I1 => ?_⟩
  cases c with
  | true => rw [if_pos rfl] at hf ⊢; exact ⟨G0, ρ, ws, k, I1, hf, q⟩
  | false => rw [if_neg Bool.false_ne_true] at hf ⊢; cases hf; exact q _ H1 (push_bl I1)
theorem e_or {rest : List Expr} (ha : OkE X a A) (hb : OkE X (.BoolOp .Or (b :: rest) pos) B) : OkE X (.BoolOp .Or (a :: b :: rest) pos) (pOr A B) := PE.imp (pe_or ha hb) fun σ H Q ⟨G0, ρ, ws, k, I, hf, q⟩ => by
  obtain ⟨c, hc, hf⟩ := Option.bind_eq_some_iff.mp hf
  refine bVal_imp (fun _ _ _ h => h) σ H _ ⟨G0, ρ, ws, c, I, hc, fun H1 I1 => ?_⟩
  cases c with
  | true => rw [if_pos rfl] at hf ⊢; cases hf; exact q _ H1 (push_bl I1)
  | false => rw [if_neg Bool.false_ne_true] at hf ⊢; exact ⟨G0, ρ, ws, k, I1, hf, q⟩
def pNot (A : Fe) : Fe := fun ρ => ((val A ρ).bind truth).map fun b => .v 0 (.bl (!b))
theorem e_not (ha : OkE X a A) : OkE X (.UnaryOp .Not a pos) (pNot A) := PE.imp (pe_notT ha) fun σ H Q ⟨G0, ρ, ws, k, I, hf, q⟩ => by
  obtain ⟨b, hb, rfl⟩ := Option.map_eq_some_iff.mp hf
  obtain ⟨w, hw, hb⟩ := Option.bind_eq_some_iff.mp hb
  obtain ⟨a, ha, hg⟩ := val_some hw
  refine ⟨G0, ρ, ws, a, I, ha, fun x H1 I1 => ?_⟩
  obtain ⟨G, F1, F2, J⟩ := I1
  obtain ⟨Fx, rx⟩ := J.top hg
  exact ⟨b, truth_of J.ex rx hb, q _ H1 (push_bl (SI.drop ⟨G, F1, F2, J⟩))⟩
def pChain (g g' : W → W → Option W) (A B C : Fe) : Fe := fun ρ => (val A ρ).bind fun u => (val B ρ).bind fun v => (g u v).bind fun w => match w.2 with
  | .bl true => (val C ρ).bind fun z => (g' v z).map fun w => .v w.1 w.2
  | .bl false => some (.v 0 (.bl false))
  | _ => none
theorem chain_imp {r r' : R2} {g g' : W → W → Option W} (hg : Op2 K r g) (hg' : Op2 K r' g') (σ : L2.St) (H : Hp) (Q : VK) (h : tE K (pChain g g' A B C) σ H Q) : tChain r r' (tE K A) (tE K B) (tE K C) σ H Q := by
  obtain ⟨G0, ρ, ws, a, I, hf, q⟩ := h
  obtain ⟨u, hu, hf⟩ := Option.bind_eq_some_iff.mp hf
  obtain ⟨v, hv, hf⟩ := Option.bind_eq_some_iff.mp hf
  obtain ⟨w, hw, hf⟩ := Option.bind_eq_some_iff.mp hf
  obtain ⟨a1, ha, hg1⟩ := val_some hu
  obtain ⟨a2, hb, hg2⟩ := val_some hv
  refine ⟨G0, ρ, ws, a1, I, ha, fun x H1 I1 => ⟨G0, ρ, (x, a1) :: ws, a2, I1, hb, fun y H2 I2 => ?_⟩⟩
  obtain ⟨G, F1, F2, J⟩ := I2
  obtain ⟨Fy, ry⟩ := J.top hg2
  obtain ⟨Fx, rx⟩ := J.next hg1
  refine hg G H2 u v x y Fx Fy w J.ex rx ry hw _ fun z H' G' F' gr rv => ?_
  obtain ⟨k, d⟩ := w
  cases d <;> first | (cases hf; done) | skip
  rename_i b
  refine ⟨b, RO.bl rv, ?_⟩
  have I3 : SI K G0 σ ρ ((y, a2) :: (x, a1) :: ws) H' := (J.grow gr).SI
  cases b with
  | false =>
    rw [if_neg Bool.false_ne_true]
    cases hf
    exact q _ H' (push_bl (SI.drop (SI.drop I3)))
  | true =>
    rw [if_pos rfl]
    obtain ⟨zz, hz, hf⟩ := Option.bind_eq_some_iff.mp hf
    obtain ⟨w2, hw2, rfl⟩ := Option.map_eq_some_iff.mp hf
    obtain ⟨a3, hc, hg3⟩ := val_some hz
    refine ⟨G0, ρ, _, a3, I3, hc, fun z2 H4 I4 => ?_⟩
    obtain ⟨G4, F14, F24, J4⟩ := I4
    obtain ⟨Fz, rz⟩ := J4.top hg3
    obtain ⟨Fy', ry'⟩ := J4.next hg2
    refine hg' G4 H4 v zz y z2 Fy' Fz w2 J4.ex ry' rz hw2 _ fun z5 H5 G5 F5 gr5 rv5 => ?_
    obtain ⟨Fa, _, Ja⟩ := J4.drop
    obtain ⟨Fb, _, Jb⟩ := Ja.drop
    obtain ⟨Fc, _, Jc⟩ := Jb.drop
    exact q z5 H5 (Jc.push gr5 rv5).SI
theorem e_chain {op op' : CmpOp} {r r' : R2} {g g' : W → W → Option W} (ho : OpR X (compareOp op) r) (hg : Op2 X.K r g) (ho' : OpR X (compareOp op') r') (hg' : Op2 X.K r' g') (ha : OkE X a A) (hb : OkE X b B) (hc : OkE X c C)
    (hm : lastMarks [op, op'] [b, c] = false := by with_unfolding_all rfl) : OkE X (.Compare a [op, op'] [b, c] pos) (pChain g g' A B C) := PE.imp (pe_chain ho ho' ha hb hc hm) (chain_imp hg hg')
theorem t_chain {op op' : CmpOp} {r r' : R2} {g g' : W → W → Option W} (ho : OpR X (compareOp op) r) (hg : Op2 X.K r g) (ho' : OpR X (compareOp op') r') (hg' : Op2 X.K r' g') (ha : OkE X a A) (hb : OkE X b B) (hc : OkE X c C)
    (hm : lastMarks [op, op'] [b, c] = false := by with_unfolding_all rfl) : OkT X (.Compare a [op, op'] [b, c] pos) (bVal (pChain g g' A B C)) := PT.imp (pt_chain ho ho' ha hb hc hm) (bVal_imp (chain_imp hg hg'))
end
end Pv
set_option Elab.async false
set_option linter.all false
set_option maxRecDepth 100000
/-! P6: statements -/
namespace Pv
open PySem PySem.Spec PyProof.Rows L2
inductive Fl where
  | nx | bk | ct | rt (w : W)
abbrev Fs := Env → Option (Fl × Env)
theorem PS.imp {X : Cx} {st : Stmt} {t t' : TS} (h : PS X st t) (i : ∀ D σ H, t' D σ H → t D σ H) : PS X st t' := ⟨fun pins s σ H D I q => h.run pins s σ H D I (i D σ H q)⟩
theorem PSs.imp {X : Cx} {st : List Stmt} {t t' : TS} (h : PSs X st t) (i : ∀ D σ H, t' D σ H → t D σ H) : PSs X st t' := ⟨fun pins s σ H D I q => h.run pins s σ H D I (i D σ H q)⟩
theorem PG.imp {X : Cx} {e : Expr} {t t' : TG} (h : PG X e t) (i : ∀ v σ H Q, t' v σ H Q → t v σ H Q) : PG X e t' := ⟨fun pins s σ H v u Q I r q => h.run pins s σ H v u Q I r (i v σ H Q q)⟩
theorem PGs.imp {X : Cx} {e : List Expr} {t t' : TGs} (h : PGs X e t) (i : ∀ v σ H Q, t' v σ H Q → t v σ H Q) : PGs X e t' := ⟨fun pins s σ H v u Q I r q => h.run pins s σ H v u Q I r (i v σ H Q q)⟩
/-- a result: what G0 holds is as it was, the rest is new -/
def RetOk (K : PySem.W.Frag) (G0 : Hp) (w : W) (v : V) (H : Hp) : Prop := ∃ G F, Same G0 G ∧ Same G H ∧ RO K G H w.1 w.2 v F ∧ F.Nodup ∧ (∀ a ∈ F, G a = none) ∧ ∀ b o, H b = some o → ¬ isOwn o → G b = some o
def Post (K : PySem.W.Frag) (G0 : Hp) (D : Ends) : Fl → Env → Prop
  | .nx, ρ => ∀ σ H, SI K G0 σ ρ [] H → D.nx σ H
  | .bk, ρ => ∀ σ H, SI K G0 σ ρ [] H → D.bk σ H
  | .ct, ρ => ∀ σ H, SI K G0 σ ρ [] H → D.ct σ H
  | .rt w, _ => ∀ v H, RetOk K G0 w v H → D.rt v H
def tS (K : PySem.W.Frag) (f : Fs) : TS := fun D σ H => ∃ G0 ρ fl ρ', SI K G0 σ ρ [] H ∧ f ρ = some (fl, ρ') ∧ Post K G0 D fl ρ'
def OkS (X : Cx) (st : Stmt) (f : Fs) : Prop := PS X st (tS X.K f)
def OkB (X : Cx) (st : List Stmt) (f : Fs) : Prop := PSs X st (tS X.K f)
section
variable {X : Cx} {K : PySem.W.Frag} {G0 G G' H H' : Hp} {σ : L2.St} {ρ : Env} {ws : List (V × Arg)} {F1 F2 : List Addr} {e a b c : Expr} {es : List Expr} {pos : Pos} {A B C : Fe} {T : Fb} {st : Stmt} {rest : List Stmt} {f g : Fs}
theorem SI.base (I : SI K G σ ρ ws H) (e : Same G0 G) : SI K G0 σ ρ ws H := by
  obtain ⟨G1, F1, F2, I⟩ := I
  exact ⟨G1, F1, F2, e.trans I.ex0, I.ex, I.sl, I.wv, I.nd, I.fr, I.tu, I.ln⟩
theorem Si.up (I : Si K G0 σ ρ ws H G F1 F2) : Pv.SI K G σ ρ ws H := ⟨G, F1, F2, Same.refl _, I.ex, I.sl, I.wv, I.nd, I.fr, I.tu, I.ln⟩
theorem RetOk.base {w : W} {v : V} (e : Same G0 G) (r : RetOk K G w v H) : RetOk K G0 w v H := by
  obtain ⟨G1, F, h1, h⟩ := r
  exact ⟨G1, F, e.trans h1, h⟩
theorem Post.base {D : Ends} {fl : Fl} (e : Same G0 G) (h : Post K G0 D fl ρ) : Post K G D fl ρ := by
  cases fl with
  | nx => exact fun σ H I => h σ H (I.base e)
  | bk => exact fun σ H I => h σ H (I.base e)
  | ct => exact fun σ H I => h σ H (I.base e)
  | rt w => exact fun v H r => h v H (r.base e)
/-! ### blocks -/
def bSeq (f g : Fs) : Fs := fun ρ => (f ρ).bind fun p => match p.1 with
  | .nx => g p.2
  | fl => some (fl, p.2)
def bNil : Fs := fun ρ => some (.nx, ρ)
theorem b_nil : OkB X [] bNil := PSs.imp pss_nil fun D σ H ⟨G0, ρ, fl, ρ', I, hf, post⟩ => by
  cases hf
  exact post σ H I
theorem b_cons (h1 : OkS X st f) (h2 : OkB X rest g) : OkB X (st :: rest) (bSeq f g) := PSs.imp (pss_cons h1 h2) fun D σ H ⟨G0, ρ, fl, ρ', I, hf, post⟩ => by
  obtain ⟨⟨fl1, ρ1⟩, h1, hf⟩ := Option.bind_eq_some_iff.mp hf
  refine ⟨G0, ρ, fl1, ρ1, I, h1, ?_⟩
  cases fl1 with
  | nx => exact fun σ1 H1 I1 => ⟨G0, ρ1, fl, ρ', I1, hf, post⟩
  | bk => cases hf; exact post
  | ct => cases hf; exact post
  | rt w => cases hf; exact post
theorem b_one (h1 : OkS X st f) : OkB X [st] f := PSs.imp (pss_one h1) fun _ _ _ h => h
def sPass : Fs := fun ρ => some (.nx, ρ)
def sBreak : Fs := fun ρ => some (.bk, ρ)
def sCont : Fs := fun ρ => some (.ct, ρ)
theorem s_pass : OkS X (.Pass pos) sPass := PS.imp ps_pass fun D σ H ⟨G0, ρ, fl, ρ', I, hf, post⟩ => by cases hf; exact post σ H I
theorem s_break : OkS X (.Break pos) sBreak := PS.imp ps_break fun D σ H ⟨G0, ρ, fl, ρ', I, hf, post⟩ => by cases hf; exact post σ H I
theorem s_cont : OkS X (.Continue pos) sCont := PS.imp ps_continue fun D σ H ⟨G0, ρ, fl, ρ', I, hf, post⟩ => by cases hf; exact post σ H I
def sIf (T : Fb) (f g : Fs) : Fs := fun ρ => (T ρ).bind fun c => if c = true then f ρ else g ρ
theorem s_if {u v : List Stmt} (hc : OkT X c T) (ha : OkB X u f) (hb : OkB X v g) : OkS X (.If c u v pos) (sIf T f g) := PS.imp (ps_if hc ha hb) fun D σ H ⟨G0, ρ, fl, ρ', I, hf, post⟩ => by
  obtain ⟨k, hk, hf⟩ := Option.bind_eq_some_iff.mp hf
  refine ⟨G0, ρ, [], k, I, hk, fun H1 I1 => ?_⟩
  cases k with
  | true => rw [if_pos rfl] at hf ⊢; exact ⟨G0, ρ, fl, ρ', I1, hf, post⟩
  | false => rw [if_neg Bool.false_ne_true] at hf ⊢; exact ⟨G0, ρ, fl, ρ', I1, hf, post⟩
/-! ### stores -/
/-- no waiting value stands in a slot -/
def noRef : List (V × Arg) → Bool
  | [] => true
  | (_, .v _ _) :: ws => noRef ws
  | (_, .r _) :: _ => false
theorem RWs.any {σ' : L2.St} {ρ' : Env} : ∀ {ws : List (V × Arg)} {F : List Addr}, noRef ws = true → RWs K G H σ ρ ws F → RWs K G H σ' ρ' ws F
  | [], _, _, h => h
  | (x, .v k d) :: ws, F, n, ⟨F1, F2, h2, h3, h4⟩ => ⟨F1, F2, h2, h3, RWs.any n h4⟩
  | (x, .r i) :: ws, F, n, _ => by cases n
theorem Si.store {i : Nat} {x : V} {k : Nat} {d : D} (I : Si K G0 σ ρ ((x, .v k d) :: ws) H G F1 F2) (hi : i < ρ.length) (hr : noRef ws = true) : ∃ F1' F2', Si K G0 (σ.set i (some x)) (ρ.set i (some (k, d))) ws H G F1' F2' := by
  obtain ⟨Fx, Fy, h2, h3, h4⟩ := I.wv
  subst h2
  obtain ⟨Fa, Fi, Fb, e1, e2, e3, e4⟩ := RSl.zoom σ ρ F1 i I.sl hi (by rw [I.ln]; exact hi)
  subst e1
  have sl := e4 G H (some x) (some (k, d)) Fx (Same.refl _) (fun _ _ => rfl) (fun w e => by cases e; exact ⟨x, rfl, h3⟩) (fun e => by cases e)
  have nd := I.nd
  have fr := I.fr
  simp only [List.nodup_append, List.mem_append] at nd fr
  refine ⟨Fa ++ Fx ++ Fb, Fy, I.ex0, I.ex, sl, RWs.any hr h4, ?_, fun b hb => ?_, I.tu, by rw [List.length_set, List.length_set]; exact I.ln⟩
  · simp only [List.nodup_append, List.mem_append]
    obtain ⟨⟨⟨n1, n2, n3⟩, n4, n5⟩, ⟨n6, n7, n8⟩, n9⟩ := nd
    refine ⟨⟨⟨n1, n6, fun p hp q hq => n9 p (.inl (.inl hp)) q (.inl hq)⟩, n4, fun p hp q hq => ?_⟩, n7, fun p hp q hq => ?_⟩
    · rcases hp with hp | hp
      · exact n5 p (.inl hp) q hq
      · exact fun e => n9 q (.inr hq) p (.inl hp) e.symm
    · rcases hp with (hp | hp) | hp
      · exact n9 p (.inl (.inl hp)) q (.inr hq)
      · exact n8 p hp q hq
      · exact n9 p (.inr hp) q (.inr hq)
  · simp only [List.mem_append] at hb
    apply fr
    rcases hb with ((hb | hb) | hb) | hb
    · exact .inl (.inl (.inl hb))
    · exact .inr (.inl hb)
    · exact .inl (.inr hb)
    · exact .inr (.inr hb)
theorem SI.store {i : Nat} {x : V} {k : Nat} {d : D} (I : SI K G0 σ ρ ((x, .v k d) :: ws) H) (hi : i < ρ.length) (hr : noRef ws = true := by rfl) : SI K G0 (σ.set i (some x)) (ρ.set i (some (k, d))) ws H := by
  obtain ⟨G, F1, F2, I⟩ := I
  obtain ⟨F1', F2', J⟩ := I.store hi hr
  exact ⟨G, F1', F2', J⟩
def putArg (i : Nat) (a : Arg) (ρ : Env) : Option Env := match a with
  | .v k d => if i < ρ.length then some (ρ.set i (some (k, d))) else none
  | .r _ => none
def sAsg (i : Nat) (A : Fe) : Fs := fun ρ => (A ρ).bind fun a => (putArg i a ρ).map fun ρ' => (.nx, ρ')
theorem asg_imp {i : Nat} {D : Ends} (σ : L2.St) (H : Hp) (h : tS K (sAsg i A) D σ H) : tAsg (tE K A) (gName i) D σ H := by
  obtain ⟨G0, ρ, fl, ρ', I, hf, post⟩ := h
  obtain ⟨a, ha, hf⟩ := Option.bind_eq_some_iff.mp hf
  obtain ⟨ρ1, hp, hf⟩ := Option.map_eq_some_iff.mp hf
  cases hf
  cases a with
  | r j => cases hp
  | v k d =>
    unfold putArg at hp
    simp only at hp
    split at hp
    · rename_i hi
      cases hp
      exact ⟨G0, ρ, [], _, I, ha, fun v H1 I1 => post _ _ (I1.store hi)⟩
    · cases hp
theorem s_asg {i : Nat} {x : Str} {pos' : Pos} (hN : X.N.Nodup) (he : OkE X e A) (hi : X.N[i]? = some x := by rfl) (hx : Loc X.env.scope x := by first | exact Or.inl rfl | exact Or.inr rfl) (hs : swapsWith e (some (.Name x pos')) pos.line X.env = pure false := by rfl)
    (hf : X.fn x = true ∨ X.env.scope.names.lookup x = some .local := by first | exact .inl rfl | exact .inr rfl) : OkS X (.Assign [.Name x pos'] e pos) (sAsg i A) := PS.imp (ps_set hN hi hx he hs hf) fun D σ H h => asg_imp σ H h
/-! ### targets -/
inductive Tg where
  | nm (i : Nat)
  | tp (ts : List Tg)
mutual
def bindT : Tg → W → Env → Option Env
  | .nm i, w, ρ => if i < ρ.length then some (ρ.set i (some w)) else none
  | .tp ts, w, ρ => match w.2 with
    | .tup ds => if ds.length = ts.length then bindTs ts ds ρ else none
    | _ => none
def bindTs : List Tg → List D → Env → Option Env
  | [], _, ρ => some ρ
  | _ :: _, [], _ => none
  | t :: ts, d :: ds, ρ => (bindT t (0, d) ρ).bind fun ρ' => bindTs ts ds ρ'
end
mutual
def slotsT : Tg → List Nat
  | .nm i => [i]
  | .tp ts => slotsTs ts
def slotsTs : List Tg → List Nat
  | [] => []
  | t :: ts => slotsT t ++ slotsTs ts
end
/-- but for the slots S -/
def But (S : List Nat) (σ σ' : L2.St) : Prop := σ'.length = σ.length ∧ ∀ j, j ∉ S → σ'[j]? = σ[j]?
theorem But.trans {S S' : List Nat} {σ σ' σ'' : L2.St} (a : But S σ σ') (b : But S' σ' σ'') : But (S ++ S') σ σ'' := ⟨b.1.trans a.1, fun j hj => by
  simp only [List.mem_append, not_or] at hj
  rw [b.2 j hj.2, a.2 j hj.1]⟩
def tG (K : PySem.W.Frag) (t : Tg) : TG := fun v σ H Q => ∃ G0 ρ ws k d ρ', noRef ws = true ∧ SI K G0 σ ρ ((v, .v k d) :: ws) H ∧ bindT t (k, d) ρ = some ρ' ∧ ∀ σ', But (slotsT t) σ σ' → SI K G0 σ' ρ' ws H → Q σ' H
def tGs (K : PySem.W.Frag) (ts : List Tg) : TGs := fun vs σ H Q => ∃ G ρ ws ds ρ', noRef ws = true ∧ SI K G σ ρ ws H ∧ RepFs K G ds vs ∧ ds.length = ts.length ∧ bindTs ts ds ρ = some ρ' ∧ ∀ σ', But (slotsTs ts) σ σ' → SI K G σ' ρ' ws H → Q σ' H
def OkG (X : Cx) (e : Expr) (t : Tg) : Prop := PG X e (tG X.K t)
def OkGs (X : Cx) (e : List Expr) (t : List Tg) : Prop := PGs X e (tGs X.K t)
theorem g_name {i : Nat} {x : Str} (hN : X.N.Nodup) (hi : X.N[i]? = some x := by rfl) (hx : Loc X.env.scope x := by first | exact Or.inl rfl | exact Or.inr rfl) (hf : X.fn x = true ∨ X.env.scope.names.lookup x = some .local := by first | exact .inl rfl | exact .inr rfl) : OkG X (.Name x pos) (.nm i) :=
  PG.imp (pg_name hN hi hx hf) fun v σ H Q ⟨G0, ρ, ws, k, d, ρ', nr, I, hb, q⟩ => by
  unfold bindT at hb
  split at hb
  · rename_i hlt
    cases hb
    refine q _ ⟨List.length_set, fun j hj => ?_⟩ (I.store hlt nr)
    have : j ≠ i := by simpa [slotsT] using hj
    rw [List.getElem?_set_ne (Ne.symm this)]
  · cases hb
theorem gs_nil : OkGs X [] [] := PGs.imp pgs_nil fun vs σ H Q ⟨G, ρ, ws, ds, ρ', nr, I, r, hl, hb, q⟩ => by
  obtain rfl := List.eq_nil_of_length_eq_zero hl
  cases hb
  exact ⟨r, q σ ⟨rfl, fun _ _ => rfl⟩ I⟩
theorem gs_cons {t : Tg} {ts : List Tg} (h1 : OkG X e t) (h2 : OkGs X es ts) (hs : (assignEach (e :: es) X.env).map (·.2) = assign e X.env :: (assignEach es X.env).map (·.2) := by rfl) : OkGs X (e :: es) (t :: ts) :=
  PGs.imp (pgs_cons h1 h2 hs) fun vs σ H Q ⟨G, ρ, ws, ds, ρ', nr, I, r, hl, hb, q⟩ => by
  cases ds with
  | nil => simp at hl
  | cons d ds =>
    obtain ⟨x, xs, rfl, r1, r2⟩ := r
    obtain ⟨ρ1, hb1, hb2⟩ := Option.bind_eq_some_iff.mp hb
    refine ⟨x, xs, rfl, G, ρ, ws, 0, d, ρ1, nr, ?_, hb1, fun σ1 s1 I1 => ⟨G, ρ1, ws, ds, ρ', nr, I1, r2, by simpa using hl, hb2, fun σ2 s2 I2 => q σ2 (s1.trans s2) I2⟩⟩
    obtain ⟨G1, F1, F2, J⟩ := I
    exact (J.pushF (RepF.mono J.ex0 _ _ r1)).SI
theorem g_tup {k : Nat} {ts : List Tg} (hc : X.calm = true) (h : OkGs X es ts) (hn : (assignEach es X.env).length = ts.length := by rfl) (hst : (assignEach es X.env).findIdx? (·.1) = none := by rfl) : OkG X (.Tuple es k pos) (.tp ts) :=
  PG.imp (pg_tup hc h hn hst) fun v σ H Q ⟨G0, ρ, ws, k, d, ρ', nr, I, hb, q⟩ => by
  unfold bindT at hb
  cases d <;> first | (cases hb; done) | skip
  rename_i ds
  simp only at hb
  split at hb
  · rename_i hl
    obtain ⟨G, F1, F2, J⟩ := I
    obtain ⟨Fx, rx⟩ := J.top (a := .v k (.tup ds)) rfl
    obtain ⟨a, xs, rfl, h1, h2⟩ := rx.tup
    obtain ⟨F2', _, J'⟩ := J.drop
    exact ⟨a, xs, rfl, same_t J.ex h1, by rw [h2.len, hl], G, ρ, ws, ds, ρ', nr, J'.up, h2, hl, hb, fun σ' s I' => q σ' s (I'.base J.ex0)⟩
  · cases hb
/-- target = value -/
def sAsgT (t : Tg) (A : Fe) : Fs := fun ρ => (val A ρ).bind fun w => (bindT t (0, w.2) ρ).map fun ρ' => (.nx, ρ')
theorem s_asgT {tg : Expr} {t : Tg} (he : OkE X e A) (hg : OkG X tg t) (hs : swapsWithSole [tg] e pos.line X.env = pure false := by rfl) (hw : swappedStores [tg] e X.env = pure none := by rfl)
    (h1 : (assignEach [tg] X.env).map (·.2) = [assign tg X.env] := by rfl) (hb : ∀ (w : W) (ρ : Env), isBox w.2 = true → bindT t (0, w.2) ρ = none := by intro w ρ h; cases w with | mk k d => cases d <;> first | (cases h; done) | rfl) : OkS X (.Assign [tg] e pos) (sAsgT t A) :=
  PS.imp (ps_asg he hg hs hw h1) fun D σ H ⟨G0, ρ, fl, ρ', I, hf, post⟩ => by
  obtain ⟨w, hw, hf⟩ := Option.bind_eq_some_iff.mp hf
  obtain ⟨ρ1, hp, hf⟩ := Option.map_eq_some_iff.mp hf
  cases hf
  obtain ⟨a, ha, hg⟩ := val_some hw
  refine ⟨G0, ρ, [], a, I, ha, fun v H1 I1 => ?_⟩
  obtain ⟨G, F1, F2, J⟩ := I1
  obtain ⟨Fx, rx⟩ := J.top hg
  have nb : isBox w.2 = false := by
    cases q : isBox w.2 with
    | false => rfl
    | true => rw [hb w ρ q] at hp; cases hp
  obtain ⟨F2', _, J'⟩ := J.drop
  exact ⟨G0, ρ, [], 0, w.2, _, rfl, (J'.pushF (rx.plain nb).1).SI, hp, fun σ' _ I' => post σ' H1 I'⟩
/-! ### several names at once -/
def putAll : List Nat → List Arg → Env → Option Env
  | [], [], ρ => some ρ
  | i :: is, a :: as, ρ => (putArg i a ρ).bind fun ρ' => putAll is as ρ'
  | _, _, _ => none
def sPar (is : List Nat) (A : Fa) : Fs := fun ρ => (A ρ).bind fun as => (putAll is as ρ).map fun ρ' => (.nx, ρ')
theorem noRef_of : ∀ {is : List Nat} {as : List Arg} {ρ ρ' : Env} {vs : List V}, putAll is as ρ = some ρ' → noRef (vs.zip as) = true
  | [], [], _, _, vs, _ => by cases vs <;> rfl
  | i :: is, .v k d :: as, ρ, ρ', vs, h => by
    obtain ⟨ρ1, h1, h2⟩ := Option.bind_eq_some_iff.mp h
    cases vs with
    | nil => rfl
    | cons v vs => exact noRef_of (vs := vs) h2
  | i :: is, .r j :: as, ρ, ρ', vs, h => by cases h
  | [], _ :: _, _, _, _, h => by cases h
  | _ :: _, [], _, _, _, h => by cases h
def setAll : List Nat → List V → L2.St → L2.St
  | i :: is, v :: vs, σ => setAll is vs (σ.set i (some v))
  | _, _, σ => σ
theorem SI.storeAll : ∀ {is : List Nat} {as : List Arg} {vs : List V} {σ : L2.St} {ρ ρ' : Env}, vs.length = as.length → putAll is as ρ = some ρ' → SI K G0 σ ρ (vs.zip as) H → SI K G0 (setAll is vs σ) ρ' [] H
  | [], [], vs, σ, ρ, ρ', hl, h, I => by
    cases h
    obtain rfl := List.eq_nil_of_length_eq_zero hl
    exact I
  | i :: is, .v k d :: as, vs, σ, ρ, ρ', hl, h, I => by
    obtain ⟨ρ1, h1, h2⟩ := Option.bind_eq_some_iff.mp h
    cases vs with
    | nil => simp at hl
    | cons v vs =>
      unfold putArg at h1
      simp only at h1
      split at h1
      · rename_i hi
        cases h1
        exact SI.storeAll (is := is) (as := as) (vs := vs) (σ := σ.set i (some v)) (by simpa using hl) h2 (SI.store (ws := vs.zip as) I hi (noRef_of h2))
      · cases h1
  | i :: is, .r j :: as, vs, σ, ρ, ρ', hl, h, I => by cases h
  | [], _ :: _, _, _, _, _, _, h, _ => by cases h
  | _ :: _, [], _, _, _, _, _, h, _ => by cases h
theorem SI.perm {ws' : List (V × Arg)} (h : ws.Perm ws') (I : SI K G0 σ ρ ws H) : SI K G0 σ ρ ws' H := by
  obtain ⟨G, F1, F2, I⟩ := I
  obtain ⟨F3, J⟩ := Si.perm h I
  exact ⟨G, F1, F3, J⟩
theorem par_core {is : List Nat} {B : Fa} {D : Ends} (σ : L2.St) (H : Hp) (h : tS K (sPar is B) D σ H) : tA K B σ H fun vs H1 => vs.length = is.length ∧ ∀ p, (H1 p = none → D.nx (setAll is vs σ) (upd H1 p (.tup vs))) ∧ D.nx (setAll is vs σ) H1 := by
  obtain ⟨G0, ρ, fl, ρ', I, hf, post⟩ := h
  obtain ⟨as, ha, hf⟩ := Option.bind_eq_some_iff.mp hf
  obtain ⟨ρ1, hp, hf⟩ := Option.map_eq_some_iff.mp hf
  cases hf
  refine ⟨G0, ρ, [], as, I, ha, fun vs H1 hl I1 => ?_⟩
  have len : ∀ (is : List Nat) (as : List Arg) (ρ ρ' : Env), putAll is as ρ = some ρ' → as.length = is.length := by
    intro is
    induction is with
    | nil => intro as ρ ρ' h; cases as with
      | nil => rfl
      | cons a as => cases h
    | cons i is ih => intro as ρ ρ' h; cases as with
      | nil => cases h
      | cons a as =>
        obtain ⟨ρ1, h1, h2⟩ := Option.bind_eq_some_iff.mp h
        rw [List.length_cons, List.length_cons, ih as ρ1 ρ' h2]
  rw [List.append_nil] at I1
  have I2 := I1.perm (List.reverse_perm _)
  refine ⟨by rw [hl, len _ _ _ _ hp], fun p => ⟨fun hn => ?_, post _ _ (SI.storeAll hl hp I2)⟩⟩
  obtain ⟨G, F1, F2, J⟩ := I2
  have g := Grow.newF (o := .tup vs) J.ex hn
  exact post _ _ (SI.storeAll hl hp (J.grow g).SI)
theorem s_par2 {i j : Nat} {x y : Str} {B : Fa} {px py pt : Pos} {kt k2 pt2} (hc : X.calm = true) (hN : X.N.Nodup) (ha : OkA X [a, b] B) (hi : X.N[i]? = some x := by rfl) (hj : X.N[j]? = some y := by rfl) (hij : i ≠ j := by decide)
    (hx : X.env.scope.names.lookup x = some .local := by rfl) (hy : X.env.scope.names.lookup y = some .local := by rfl)
    (hw : swappedStores [.Tuple [.Name x px, .Name y py] kt pt] (.Tuple [a, b] k2 pt2) X.env = pure (some [x, y]) := by rfl)
    (hs : swapsWithSole [.Tuple [.Name x px, .Name y py] kt pt] (.Tuple [a, b] k2 pt2) pos.line X.env = pure false := by rfl) :
    OkS X (.Assign [.Tuple [.Name x px, .Name y py] kt pt] (.Tuple [a, b] k2 pt2) pos) (sPar [i, j] B) := PS.imp (ps_par hc hN hi hj hij hx hy ha hw hs) fun D σ H h => by
  obtain ⟨G0, ρ, ws, as, I, hA, q⟩ := par_core σ H h
  refine ⟨G0, ρ, ws, as, I, hA, fun vs H1 hl I1 => ?_⟩
  obtain ⟨hn, q⟩ := q vs H1 hl I1
  match vs, hn, q with
  | [v, w], _, q => exact ⟨v, w, rfl, (q 0).2⟩
/-- the names all at once, by way of the tuple -/
def OkNs (X : Cx) : List Expr → List Nat → Prop
  | [], [] => True
  | e :: es, i :: is => PG X e (gName i) ∧ (assignEach (e :: es) X.env).map (·.2) = assign e X.env :: (assignEach es X.env).map (·.2) ∧ OkNs X es is
  | _, _ => False
def gNames : List Nat → TGs
  | [] => gNil
  | i :: is => gCons (gName i) (gNames is)
theorem pgs_names : ∀ {es : List Expr} {is : List Nat}, OkNs X es is → PGs X es (gNames is)
  | [], [], _ => pgs_nil
  | e :: es, i :: is, h => pgs_cons h.1 (pgs_names h.2.2) h.2.1
  | [], _ :: _, h => h.elim
  | _ :: _, [], h => h.elim
theorem gNames_of : ∀ {is : List Nat} {vs : List V} {σ : L2.St} {H : Hp} {Q : L2.St → Hp → Prop}, vs.length = is.length → Q (setAll is vs σ) H → gNames is vs σ H Q
  | [], vs, σ, H, Q, hl, h => by
    obtain rfl := List.eq_nil_of_length_eq_zero hl
    exact ⟨rfl, h⟩
  | i :: is, [], σ, H, Q, hl, h => by simp at hl
  | i :: is, v :: vs, σ, H, Q, hl, h => ⟨v, vs, rfl, gNames_of (by simpa using hl) h⟩
theorem s_parN {is : List Nat} {ts : List Expr} {B : Fa} {kt k2 : _} {pt pt2 : Pos} (hc : X.calm = true) (ha : OkA X es B) (hg : OkNs X ts is) (hz : is.length ≤ 1000 := by decide) (hs : swapsWithSole [.Tuple ts kt pt] (.Tuple es k2 pt2) pos.line X.env = pure false := by rfl)
    (hw : swappedStores [.Tuple ts kt pt] (.Tuple es k2 pt2) X.env = pure none := by rfl) (h1 : (assignEach [.Tuple ts kt pt] X.env).map (·.2) = [assign (.Tuple ts kt pt) X.env] := by rfl)
    (hn : (assignEach ts X.env).length = is.length := by rfl) (hst : (assignEach ts X.env).findIdx? (·.1) = none := by rfl) : OkS X (.Assign [.Tuple ts kt pt] (.Tuple es k2 pt2) pos) (sPar is B) :=
  PS.imp (ps_asg (pe_tup ha) (pg_tup hc (pgs_names hg) hn hst) hs hw h1) fun D σ H h => by
  obtain ⟨G0, ρ, ws, as, I, hA, q⟩ := par_core σ H h
  refine ⟨G0, ρ, ws, as, I, hA, fun vs H1 hl I1 => ?_⟩
  obtain ⟨hn, q⟩ := q vs H1 hl I1
  refine ⟨by rw [hn]; exact Nat.le_trans hz (by decide), fun p hp => ?_⟩
  exact ⟨p, vs, rfl, .inl (.inl upd_same), hn, gNames_of hn ((q p).1 hp)⟩
/-! ### name op= e -/
def sAug (i : Nat) (g : W → W → Option W) (A : Fe) : Fs := fun ρ => ((ρ[i]?).join).bind fun u => (val A ρ).bind fun v => (g u v).bind fun w => if i < ρ.length then some (.nx, ρ.set i (some w)) else none
theorem s_aug {i : Nat} {x : Str} {op : Operator} {r : R2} {gg : W → W → Option W} {pos' : Pos} (hN : X.N.Nodup) (ho : PIp X op r) (hg : Op2 X.K r gg) (he : OkE X e A) (hi : X.N[i]? = some x := by rfl) (hx : Loc X.env.scope x := by first | exact Or.inl rfl | exact Or.inr rfl)
    (hf : X.fn x = true ∨ X.env.scope.names.lookup x = some .local := by first | exact .inl rfl | exact .inr rfl) : OkS X (.AugAssign (.Name x pos') op e pos) (sAug i gg A) := PS.imp (ps_aug hN hi hx he ho hf) fun D σ H ⟨G0, ρ, fl, ρ', I, hf, post⟩ => by
  obtain ⟨u, hu, hf⟩ := Option.bind_eq_some_iff.mp hf
  obtain ⟨v, hv, hf⟩ := Option.bind_eq_some_iff.mp hf
  obtain ⟨w, hw, hf⟩ := Option.bind_eq_some_iff.mp hf
  split at hf
  · rename_i hi
    cases hf
    obtain ⟨a, ha, hga⟩ := val_some hv
    have hs : ∃ x, σ[i]? = some (some x) := by
      obtain ⟨G, F1, F2, J⟩ := I
      obtain ⟨v, Fi, h1, _, _⟩ := J.sl.at (join_some hu)
      exact ⟨v, h1⟩
    obtain ⟨x, hx⟩ := hs
    refine ⟨x, hx, G0, ρ, [], a, I, ha, fun y H1 I1 => ?_⟩
    obtain ⟨G, F1, F2, J⟩ := I1
    obtain ⟨Fy, ry⟩ := J.top hga
    obtain ⟨x', Fi, h1, rx, _⟩ := J.sl.at (join_some hu)
    rw [hx] at h1
    cases h1
    refine hg G H1 u v x y Fi Fy w J.ex rx ry hw _ fun z H' G' F' gr rv => ?_
    obtain ⟨F2', _, J'⟩ := J.drop
    obtain ⟨F1', F2'', J2⟩ := (J'.push gr rv).store hi rfl
    exact post _ _ J2.SI
  · cases hf
/-! ### return -/
def sRet (A : Fe) : Fs := fun ρ => (A ρ).bind fun a => (a.get ρ).map fun w => (.rt w, ρ)
theorem s_ret (he : OkE X e A) : OkS X (.Return (some e) pos) (sRet A) := PS.imp (ps_ret he) fun D σ H ⟨G0, ρ, fl, ρ', I, hf, post⟩ => by
  obtain ⟨a, ha, hf⟩ := Option.bind_eq_some_iff.mp hf
  obtain ⟨w, hw, hf⟩ := Option.map_eq_some_iff.mp hf
  cases hf
  refine ⟨G0, ρ, [], a, I, ha, fun v H1 I1 => post v H1 ?_⟩
  obtain ⟨G, F1, F2, J⟩ := I1
  cases a with
  | v k d =>
    cases hw
    obtain ⟨Fa, Fb, h2, h3, h4⟩ := J.wv
    subst h2
    have nd := J.nd
    simp only [List.nodup_append] at nd
    exact ⟨G, Fa, J.ex0, J.ex, h3, nd.2.1.1, fun b hb => J.fr b (by simp [hb]), J.tu⟩
  | r i =>
    obtain ⟨h1, ⟨w', h2⟩, h3⟩ := J.wv
    have hw' : ρ[i]? = some (some w) := join_some hw
    have hi : i < ρ.length := (List.getElem?_eq_some_iff.mp hw').1
    obtain ⟨Fa, Fi, Fb, e1, e2, e3, e4⟩ := RSl.zoom σ ρ F1 i J.sl hi (by rw [J.ln]; exact hi)
    obtain ⟨v', q1, q2⟩ := e2 w hw'
    rw [h1] at q1
    cases q1
    subst e1
    have nd := J.nd
    simp only [List.nodup_append] at nd
    exact ⟨G, Fi, J.ex0, J.ex, q2, nd.1.1.2.1, fun b hb => J.fr b (by simp [hb]), J.tu⟩
def sRetN : Fs := fun ρ => some (.rt (0, .non), ρ)
theorem s_retN : OkS X (.Return none pos) sRetN := PS.imp ps_retN fun D σ H ⟨G0, ρ, fl, ρ', I, hf, post⟩ => by
  cases hf
  obtain ⟨G, F1, F2, J⟩ := I
  exact post _ _ ⟨G, [], J.ex0, J.ex, ⟨rfl, rfl⟩, List.nodup_nil, (fun a h => by cases h), J.tu⟩
end
end Pv
set_option Elab.async false
set_option linter.all false
set_option maxRecDepth 100000
/-! P7: loops, comprehensions -/
namespace Pv
open PySem PySem.Spec PyProof.Rows L2
theorem PI.imp {X : Cx} {tg e : Expr} {t t' : TI} (h : PI X tg e t) (i : ∀ σ H R, t' σ H R → t σ H R) : PI X tg e t' := ⟨fun pins s σ H R I q => h.run pins s σ H R I (i σ H R q)⟩
/-- what an iterator gives, while P holds -/
structure Items (K : PySem.W.Frag) (J : It) (ds : List D) (P : Hp → Hp → Prop) : Prop where
  goes : ∀ i G H, i < ds.length → P G H → J.go i H
  stops : ∀ G H, P G H → J.stop ds.length H
  yields : ∀ i G H x H', i < ds.length → P G H → J.yld i H x H' → ∃ G' d, Grow G H G' H' [] ∧ ds[i]? = some d ∧ RepF K G' d x
abbrev Fit := Env → Option (List D)
/-- for a for: over what is frozen -/
def tI (K : PySem.W.Frag) (f : Fit) : TI := fun σ H R => ∃ G0 ρ ds, SI K G0 σ ρ [] H ∧ f ρ = some ds ∧ ∀ J H' G1, Same G0 G1 → SI K G1 σ ρ [] H' → Items K J ds (fun G H => Same G1 G ∧ Same G H) → R J H'
/-- for a comprehension -/
def tIc (K : PySem.W.Frag) (f : Fit) : TI := fun σ H R => ∃ G0 ρ ws ds, SI K G0 σ ρ ws H ∧ f ρ = some ds ∧ ∀ J H' G1, Same G0 G1 → SI K G1 σ ρ ws H' → Items K J ds (fun G H => ∃ ws' F1 F2, Si K G1 σ ρ ws' H G F1 F2) → R J H'
def OkI (X : Cx) (tg e : Expr) (f : Fit) : Prop := PI X tg e (tI X.K f)
def OkIc (X : Cx) (tg e : Expr) (f : Fit) : Prop := PI X tg e (tIc X.K f)
section
variable {X : Cx} {K : PySem.W.Frag} {G0 G G' H H' : Hp} {σ : L2.St} {ρ : Env} {ws : List (V × Arg)} {F1 F2 : List Addr} {e a b c tg : Expr} {es : List Expr} {pos : Pos} {A B C : Fe} {T : Fb} {st : Stmt} {rest body : List Stmt} {f g : Fs}
/-! ### for -/
def loopF (t : Tg) (f : Fs) : List D → Env → Option (Fl × Env)
  | [], ρ => some (.nx, ρ)
  | d :: ds, ρ => (bindT t (0, d) ρ).bind fun ρ1 => (f ρ1).bind fun p => match p.1 with
    | .nx => loopF t f ds p.2
    | .ct => loopF t f ds p.2
    | .bk => some (.nx, p.2)
    | .rt w => some (.rt w, p.2)
def sFor (it : Fit) (t : Tg) (f : Fs) : Fs := fun ρ => (it ρ).bind fun ds => loopF t f ds ρ
theorem s_for {iter : Expr} {it : Fit} {t : Tg} (hp : PassesOwn (model X.prog X.w) X.A X.env X.xe) (hc : X.calm = true) (hi : OkI X tg iter it) (hg : OkG X tg t) (hb : OkB X body f) (hs : ∀ x, foldedSetIterable iter X.env x = pure x := by exact fun _ => rfl) :
    OkS X (.For tg iter body [] pos) (sFor it t f) := PS.imp (ps_for hp hc hi hg hb hs) fun D σ H ⟨G0, ρ, fl, ρ', I, hf, post⟩ => by
  obtain ⟨ds, hds, hf⟩ := Option.bind_eq_some_iff.mp hf
  refine ⟨G0, ρ, ds, I, hds, fun J H1 G1 e01 I1 it => ?_⟩
  refine ⟨fun i m σ H => m = ds.length - i ∧ i ≤ ds.length ∧ ∃ ρi, SI X.K G1 σ ρi [] H ∧ loopF t f (ds.drop i) ρi = some (fl, ρ'), ⟨ds.length, by simp, Nat.zero_le _, ρ, I1, hf⟩, ?_⟩
  rintro i m σ2 H2 ⟨rfl, hi, ρi, Ii, hl⟩
  by_cases hlt : i < ds.length
  · obtain ⟨G, F1, F2, J2⟩ := Ii
    refine .inr ⟨it.goes i G H2 hlt ⟨J2.ex0, J2.ex⟩, ?_⟩
    rw [List.drop_eq_getElem_cons hlt] at hl
    obtain ⟨ρ1, hb1, hl⟩ := Option.bind_eq_some_iff.mp hl
    obtain ⟨⟨fl1, ρ2⟩, hb2, hl⟩ := Option.bind_eq_some_iff.mp hl
    refine ⟨fun σ H => ∃ ρi, SI X.K G1 σ ρi [] H ∧ loopF t f (ds.drop (i + 1)) ρi = some (fl, ρ'), fun σ' H' ⟨ρi, h1, h2⟩ => ⟨ds.length - (i + 1), by omega, rfl, hlt, ρi, h1, h2⟩, fun x H' y => ?_⟩
    obtain ⟨G', d, gr, hd, rd⟩ := it.yields i G H2 x H' hlt ⟨J2.ex0, J2.ex⟩ y
    have ed : d = ds[i] := by rw [List.getElem?_eq_getElem hlt] at hd; exact (Option.some.inj hd).symm
    subst ed
    have J3 := (J2.grow gr).pushF rd
    refine ⟨G1, ρi, [], 0, ds[i], ρ1, rfl, J3.SI, hb1, fun σ' _ I' => ⟨G1, ρ1, fl1, ρ2, I', hb2, ?_⟩⟩
    cases fl1 with
    | nx => exact fun σ H I => ⟨ρ2, I, hl⟩
    | ct => exact fun σ H I => ⟨ρ2, I, hl⟩
    | bk => cases hl; exact fun σ H I => post σ H (I.base e01)
    | rt w => cases hl; exact fun v H r => post v H (r.base e01)
  · have ei : i = ds.length := by omega
    subst ei
    rw [List.drop_length] at hl
    cases hl
    obtain ⟨G, F1, F2, J2⟩ := Ii
    exact .inl ⟨it.stops G H2 ⟨J2.ex0, J2.ex⟩, post σ2 H2 (J2.SI.base e01)⟩
/-! ### while -/
def loopW (T : Fb) (f : Fs) : Nat → Env → Option (Fl × Env)
  | 0, _ => none
  | n + 1, ρ => (T ρ).bind fun c => if c = true then (f ρ).bind fun p => match p.1 with
    | .nx => loopW T f n p.2
    | .ct => loopW T f n p.2
    | .bk => some (.nx, p.2)
    | .rt w => some (.rt w, p.2)
    else some (.nx, ρ)
def sWhile (n : Nat) (T : Fb) (f : Fs) : Fs := loopW T f n
theorem s_while {n : Nat} (hp : PassesOwn (model X.prog X.w) X.A X.env X.xe) (hc : OkT X c T) (hb : OkB X body f) : OkS X (.While c body [] pos) (sWhile n T f) := PS.imp (ps_while hp hc hb) fun D σ H ⟨G0, ρ, fl, ρ', I, hf, post⟩ => by
  refine ⟨fun m σ H => ∃ ρm, SI X.K G0 σ ρm [] H ∧ loopW T f m ρm = some (fl, ρ'), ⟨n, ρ, I, hf⟩, ?_⟩
  rintro m σ2 H2 ⟨ρm, Im, hl⟩
  cases m with
  | zero => cases hl
  | succ m =>
    obtain ⟨k, hk, hl⟩ := Option.bind_eq_some_iff.mp hl
    refine ⟨G0, ρm, [], k, Im, hk, fun H3 I3 => ?_⟩
    cases k with
    | false =>
      rw [if_neg Bool.false_ne_true] at hl ⊢
      cases hl
      exact post σ2 H3 I3
    | true =>
      rw [if_pos rfl] at hl ⊢
      obtain ⟨⟨fl1, ρ2⟩, hb2, hl⟩ := Option.bind_eq_some_iff.mp hl
      refine ⟨fun σ H => ∃ ρm, SI X.K G0 σ ρm [] H ∧ loopW T f m ρm = some (fl, ρ'), fun σ' H' h => ⟨m, Nat.lt_succ_self m, h⟩, G0, ρm, fl1, ρ2, I3, hb2, ?_⟩
      cases fl1 with
      | nx => exact fun σ H I => ⟨ρ2, I, hl⟩
      | ct => exact fun σ H I => ⟨ρ2, I, hl⟩
      | bk => cases hl; exact fun σ H I => post σ H I
      | rt w => cases hl; exact fun v H r => post v H r
/-! ### what is walked -/
theorem Items.listF {a : Addr} {ds : List D} {xs : List V} {G1 : Hp} (h : G1 a = some (.lst xs)) (r : RepFs K G1 ds xs) : Items K (Itl K a) ds (fun G H => Same G1 G ∧ Same G H) where
  goes := fun i G H hi ⟨e1, e2⟩ => ⟨xs, xs[i]'(by rw [r.len]; exact hi), SqL.of (e2 _ _ (e1 _ _ h)), by simp [r.len, hi]⟩
  stops := fun G H ⟨e1, e2⟩ => ⟨xs, SqL.of (e2 _ _ (e1 _ _ h)), by rw [r.len]; exact Nat.le_refl _⟩
  yields := fun i G H x H' hi ⟨e1, e2⟩ ⟨hy, hx⟩ => by
    subst hy
    obtain ⟨z, h1, h2⟩ := (RepFs.mono e1 _ _ r).get (List.getElem?_eq_getElem hi)
    have := hx xs (SqL.of (e2 _ _ (e1 _ _ h)))
    rw [h1] at this
    cases this
    exact ⟨G, ds[i], Grow.refl e2, List.getElem?_eq_getElem hi, h2⟩
theorem Items.tupF {a : Addr} {ds : List D} {xs : List V} {G1 : Hp} (h : SqT K G1 a xs) (r : RepFs K G1 ds xs) : Items K (Itt K a) ds (fun G H => Same G1 G ∧ Same G H) where
  goes := fun i G H hi ⟨e1, e2⟩ => ⟨xs, xs[i]'(by rw [r.len]; exact hi), same_t e2 (same_t e1 h), by simp [r.len, hi]⟩
  stops := fun G H ⟨e1, e2⟩ => ⟨xs, same_t e2 (same_t e1 h), by rw [r.len]; exact Nat.le_refl _⟩
  yields := fun i G H x H' hi ⟨e1, e2⟩ ⟨hy, hx⟩ => by
    subst hy
    obtain ⟨z, h1, h2⟩ := (RepFs.mono e1 _ _ r).get (List.getElem?_eq_getElem hi)
    have := hx xs (same_t e2 (same_t e1 h))
    rw [h1] at this
    cases this
    exact ⟨G, ds[i], Grow.refl e2, List.getElem?_eq_getElem hi, h2⟩
theorem Items.mono {J : It} {ds : List D} {P P' : Hp → Hp → Prop} (i : Items K J ds P) (h : ∀ G H, P' G H → P G H) : Items K J ds P' :=
  ⟨fun k G H hk p => i.goes k G H hk (h G H p), fun G H p => i.stops G H (h G H p), fun k G H x H' hk p y => i.yields k G H x H' hk (h G H p) y⟩
theorem Items.toC {J : It} {ds : List D} {G1 : Hp} (i : Items K J ds (fun G H => Same G1 G ∧ Same G H)) : Items K J ds (fun G H => ∃ ws' F1 F2, Si K G1 σ ρ ws' H G F1 F2) :=
  i.mono fun G H ⟨_, _, _, I⟩ => ⟨I.ex0, I.ex⟩
/-- a frozen list or tuple, or a new one -/
def iVal (A : Fe) : Fit := fun ρ => (A ρ).bind fun a => match a with
  | .v _ (.lst ds) => some ds
  | _ => none
def iValT (A : Fe) : Fit := fun ρ => (val A ρ).bind fun w => match w.2 with
  | .tup ds => some ds
  | .ktp ds => some ds
  | _ => none
theorem i_list (h : OkE X e A) : OkI X tg e (iVal A) := PI.imp (pi_list h) fun σ H R ⟨G0, ρ, ds, I, hf, q⟩ => by
  obtain ⟨a, ha, hf⟩ := Option.bind_eq_some_iff.mp hf
  split at hf
  · rename_i k ds'
    cases hf
    refine ⟨G0, ρ, [], _, I, ha, fun v H1 I1 => ?_⟩
    obtain ⟨G, F1, F2, J⟩ := I1
    obtain ⟨G1, F2', J1, e1, r1⟩ := J.freeze
    obtain ⟨p, xs, rfl, h1, h2⟩ := r1
    exact ⟨p, rfl, ⟨xs, SqL.of (J1.ex _ _ h1)⟩, q _ H1 G1 J1.ex0 J1.up (Items.listF h1 h2)⟩
  · cases hf
theorem tupK_rep {k : Nat} {d : D} {ds : List D} {v : V} {F : List Addr} (h : (match d with | .tup ds => some ds | .ktp ds => some ds | _ => none) = some ds) (r : RO K G H k d v F) : ∃ a xs, v = .ref a ∧ SqT K G a xs ∧ RepFs K G ds xs := by
  cases d <;> first | (cases h; done) | skip
  · cases h; exact r.tup
  · cases h; obtain ⟨a, xs, h1, h2, h3⟩ := r.ktp; exact ⟨a, xs, h1, h2.sq, h3⟩
theorem i_tup (h : OkE X e A) : OkI X tg e (iValT A) := PI.imp (pi_tup h) fun σ H R ⟨G0, ρ, ds, I, hf, q⟩ => by
  obtain ⟨w, hw, hf⟩ := Option.bind_eq_some_iff.mp hf
  obtain ⟨a, ha, hg⟩ := val_some hw
  refine ⟨G0, ρ, [], a, I, ha, fun v H1 I1 => ?_⟩
  obtain ⟨G, F1, F2, J⟩ := I1
  obtain ⟨Fx, rx⟩ := J.top hg
  obtain ⟨p, xs, rfl, h1, h2⟩ := tupK_rep hf rx
  obtain ⟨F2', _, J'⟩ := J.drop
  exact ⟨p, rfl, ⟨xs, same_t J.ex h1⟩, q _ H1 G J'.ex0 J'.up (Items.tupF h1 h2)⟩
def rngD (lo : Int) (n : Nat) : List D := (List.range n).map fun i => .int (lo + (i : Nat))
theorem Items.rng {lo : Int} {n : Nat} {G1 : Hp} : Items K (Itr lo n) (rngD lo n) (fun G H => Same G1 G ∧ Same G H) where
  goes := fun i G H hi _ => by
    have : (rngD lo n).length = n := by simp [rngD]
    rw [this] at hi; exact hi
  stops := fun G H _ => by
    have : (rngD lo n).length = n := by simp [rngD]
    rw [this]; exact Nat.le_refl n
  yields := fun i G H x H' hi ⟨e1, e2⟩ ⟨hy, hx⟩ => by
    have : (rngD lo n).length = n := by simp [rngD]
    rw [this] at hi
    subst hy hx
    exact ⟨G, .int (lo + (i : Nat)), Grow.refl e2, by simp [rngD, hi], rfl⟩
theorem val1 {f : Fe} {G0 : Hp} {ρ : Env} {Q : List V → Hp → Prop} {w : W} (I : SI K G0 σ ρ ws H) (hv : val f ρ = some w) (q : ∀ v H1 G F1 F2 Fx, Si K G0 σ ρ ws H1 G F1 F2 → RO K G H1 w.1 w.2 v Fx → Q [v] H1) : tA K (aCons f aNil) σ H Q := by
  obtain ⟨a, ha, hg⟩ := val_some hv
  refine ⟨G0, ρ, ws, [a], I, by simp [aCons, aNil, ha], fun vs H1 hl I1 => ?_⟩
  match vs, hl, I1 with
  | [v], _, I1 =>
    obtain ⟨G, F1, F2, J⟩ := I1
    obtain ⟨Fx, rx⟩ := Si.top (ws := ws) J hg
    obtain ⟨F2', _, J'⟩ := Si.drop (ws := ws) J
    exact q v H1 G F1 F2' Fx J' rx
theorem val2 {f g : Fe} {G0 : Hp} {ρ : Env} {Q : List V → Hp → Prop} {w u : W} (I : SI K G0 σ ρ ws H) (hv : val f ρ = some w) (hu : val g ρ = some u)
    (q : ∀ v y H1 G F1 F2 Fx Fy, Si K G0 σ ρ ws H1 G F1 F2 → RO K G H1 w.1 w.2 v Fx → RO K G H1 u.1 u.2 y Fy → Q [v, y] H1) : tA K (aCons f (aCons g aNil)) σ H Q := by
  obtain ⟨a, ha, hg⟩ := val_some hv
  obtain ⟨b, hb, hgb⟩ := val_some hu
  refine ⟨G0, ρ, ws, [a, b], I, by simp [aCons, aNil, ha, hb], fun vs H1 hl I1 => ?_⟩
  match vs, hl, I1 with
  | [v, y], _, I1 =>
    obtain ⟨G, F1, F2, J⟩ := I1
    obtain ⟨Fx, rx⟩ := Si.top (ws := (v, a) :: ws) J hgb
    obtain ⟨F2', _, J'⟩ := Si.drop (ws := (v, a) :: ws) J
    obtain ⟨Fy, ry⟩ := Si.top (ws := ws) J' hg
    obtain ⟨F3', _, J''⟩ := Si.drop (ws := ws) J'
    exact q v y H1 G F1 F3' Fy Fx J'' ry rx
/-- range(n), range(a, b) -/
def iRange1 (A : Fe) : Fit := fun ρ => (val A ρ).bind fun w => match w.2 with
  | .int n => if -1000000000 ≤ n ∧ n ≤ 1000000000 then some (rngD 0 n.toNat) else none
  | _ => none
theorem i_range1 {p : Pos} (hg : Gl X "range") (hm : X.mg "range" = none) (ha : OkE X a A) (hs : starEach [a] X.env = [(false, eval a X.env)] := by rfl) : OkI X tg (.Call (.Name "range" p) [a] [] pos) (iRange1 A) :=
  PI.imp (pi_range1 (ta := tA X.K (aCons A aNil)) hg hm (a_cons ha a_nil hs) hs) fun σ H R ⟨G0, ρ, ds, I, hf, q⟩ => by
  obtain ⟨w, hw, hf⟩ := Option.bind_eq_some_iff.mp hf
  obtain ⟨k, d⟩ := w
  cases d <;> first | (cases hf; done) | skip
  rename_i n
  simp only at hf
  split at hf
  · rename_i hn
    cases hf
    refine val1 I hw fun v H1 G F1 F2 Fx J rx => ?_
    obtain rfl := rx.int
    exact ⟨n, rfl, by omega, by omega, q _ H1 G J.ex0 J.up Items.rng⟩
  · cases hf
def iRange2 (A B : Fe) : Fit := fun ρ => (val A ρ).bind fun w => (val B ρ).bind fun u => match w.2, u.2 with
  | .int m, .int n => if (-1000000000 ≤ m ∧ m ≤ 1000000000) ∧ -1000000000 ≤ n ∧ n ≤ 1000000000 then some (rngD m (n - m).toNat) else none
  | _, _ => none
theorem i_range2 {p : Pos} (hg : Gl X "range") (hm : X.mg "range" = none) (ha : OkE X a A) (hb : OkE X b B) (hs : starEach [a, b] X.env = [(false, eval a X.env), (false, eval b X.env)] := by rfl) (hs2 : starEach [b] X.env = [(false, eval b X.env)] := by rfl) :
    OkI X tg (.Call (.Name "range" p) [a, b] [] pos) (iRange2 A B) :=
  PI.imp (pi_range2 (ta := tA X.K (aCons A (aCons B aNil))) hg hm (a_cons ha (a_cons hb a_nil hs2) (by rw [hs, hs2])) hs hs2) fun σ H R ⟨G0, ρ, ds, I, hf, q⟩ => by
  obtain ⟨w, hw, hf⟩ := Option.bind_eq_some_iff.mp hf
  obtain ⟨u, hu, hf⟩ := Option.bind_eq_some_iff.mp hf
  obtain ⟨k, d⟩ := w
  obtain ⟨l, c⟩ := u
  cases d <;> first | (cases hf; done) | skip
  cases c <;> first | (cases hf; done) | skip
  simp only at hf
  split at hf
  · rename_i hn
    cases hf
    refine val2 I hw hu fun v y H1 G F1 F2 Fx Fy J rx ry => ?_
    obtain rfl := rx.int
    obtain rfl := ry.int
    exact ⟨_, _, rfl, ⟨by omega, by omega, by omega, by omega⟩, q _ H1 G J.ex0 J.up Items.rng⟩
  · cases hf
end
end Pv
set_option Elab.async false
set_option linter.all false
set_option maxRecDepth 100000
/-! P8: comprehensions -/
namespace Pv
open PySem PySem.Spec PyProof.Rows L2
section
variable {X : Cx} {K : PySem.W.Frag} {G0 G G1 G' G4 H H' H4 : Hp} {σ : L2.St} {ρ : Env} {ws : List (V × Arg)} {F1 F2 : List Addr} {e a b c tg : Expr} {es : List Expr} {pos : Pos} {A B C : Fe} {T : Fb} {st : Stmt} {rest body : List Stmt} {f g : Fs}
def plain0 (o : Option (Option W)) : Prop := ∀ w, o = some (some w) → w.1 = 0 ∨ isBox w.2 = false
theorem RO.plain0 {w : W} {v : V} {F : List Addr} (h : w.1 = 0 ∨ isBox w.2 = false) (r : RO K G H w.1 w.2 v F) : RepF K G w.2 v ∧ F = [] := by
  obtain ⟨k, d⟩ := w
  rcases h with h | h
  · simp only at h; subst h; exact r
  · exact r.plain h
theorem RO.of_plain {w : W} {v : V} (h : w.1 = 0 ∨ isBox w.2 = false) (r : RepF K G w.2 v) : RO K G H w.1 w.2 v [] := by
  obtain ⟨k, d⟩ := w
  rcases h with h | h
  · simp only at h; subst h; exact ⟨r, rfl⟩
  · cases k with
    | zero => exact ⟨r, rfl⟩
    | succ k => cases d <;> first | exact ⟨r, rfl⟩ | cases h
theorem RSl.merge (e : Same G G4) : ∀ (σ : L2.St) (ρ : Env) (σ2 : L2.St) (ρ2 : Env) (P : Nat → Prop) (F F2 : List Addr), RSl K G H σ ρ F → RSl K G4 H4 σ2 ρ2 F2 → σ.length = ρ.length → ρ2.length = ρ.length → σ2.length = σ.length →
    (∀ j, P j → Pv.plain0 ρ[j]? ∧ Pv.plain0 ρ2[j]?) → (∀ j, ¬ P j → ρ2[j]? = ρ[j]? ∧ σ2[j]? = σ[j]?) → RSl K G4 H4 σ ρ F2
  | [], [], σ2, ρ2, P, F, F2, h, h2, l1, l2, l3, _, _ => by
    obtain rfl := List.eq_nil_of_length_eq_zero (show ρ2.length = 0 from l2)
    obtain rfl := List.eq_nil_of_length_eq_zero (show σ2.length = 0 from l3)
    exact h2
  | [], _ :: _, _, _, _, _, _, _, _, l1, _, _, _, _ => by simp at l1
  | _ :: _, [], _, _, _, _, _, _, _, l1, _, _, _, _ => by simp at l1
  | s :: σ, r :: ρ, [], _, _, _, _, _, _, _, _, l3, _, _ => by simp at l3
  | s :: σ, r :: ρ, _ :: _, [], _, _, _, _, _, _, l2, _, _, _ => by simp at l2
  | s :: σ, r :: ρ, s2 :: σ2, r2 :: ρ2, P, F, F2, h, h2, l1, l2, l3, p1, p2 => by
    have ih := RSl.merge e σ ρ σ2 ρ2 (fun j => P (j + 1))
    have l1' : σ.length = ρ.length := by simpa using l1
    have l2' : ρ2.length = ρ.length := by simpa using l2
    have l3' : σ2.length = σ.length := by simpa using l3
    have p1' : ∀ j, P (j + 1) → Pv.plain0 ρ[j]? ∧ Pv.plain0 ρ2[j]? := fun j h => by simpa using p1 (j + 1) h
    have p2' : ∀ j, ¬ P (j + 1) → ρ2[j]? = ρ[j]? ∧ σ2[j]? = σ[j]? := fun j h => by simpa using p2 (j + 1) h
    by_cases hP : P 0
    · obtain ⟨q1, q2⟩ := p1 0 hP
      -- the tail's footprint
      have tail2 : RSl K G4 H4 σ2 ρ2 F2 := by
        cases r2 with
        | none => exact h2
        | some w2 =>
          obtain ⟨v, Fa, Fb, e1, e2, e3, e4⟩ := h2
          have := (e3.plain0 (q2 w2 rfl)).2
          subst this
          rw [e2]; exact e4
      cases r with
      | none => exact ih F F2 h tail2 l1' l2' l3' p1' p2'
      | some w =>
        obtain ⟨v, Fa, Fb, e1, e2, e3, e4⟩ := h
        have pl := q1 w rfl
        exact ⟨v, [], F2, e1, rfl, RO.of_plain pl (RepF.mono e _ _ (e3.plain0 pl).1), ih Fb F2 e4 tail2 l1' l2' l3' p1' p2'⟩
    · obtain ⟨q1, q2⟩ := p2 0 hP
      have q1' : r2 = r := by simpa using q1
      have q2' : s2 = s := by simpa using q2
      subst q1' q2'
      cases r2 with
      | none => exact ih F F2 h h2 l1' l2' l3' p1' p2'
      | some w =>
        obtain ⟨v, Fa, Fb, e1, e2, e3, e4⟩ := h
        obtain ⟨v2, Fc, Fd, e5, e6, e7, e8⟩ := h2
        exact ⟨v2, Fc, Fd, e5, e6, e7, ih Fb Fd e4 e8 l1' l2' l3' p1' p2'⟩
/-- without what stands in slots -/
def strip : List (V × Arg) → List (V × Arg)
  | [] => []
  | (x, .v k d) :: ws => (x, .v k d) :: strip ws
  | (_, .r _) :: ws => strip ws
theorem noRef_strip : ∀ ws, noRef (strip ws) = true
  | [] => rfl
  | (x, .v k d) :: ws => noRef_strip ws
  | (_, .r _) :: ws => noRef_strip ws
theorem RWs.strip {σ2 : L2.St} {ρ2 : Env} : ∀ {ws : List (V × Arg)} {F : List Addr}, RWs K G H σ ρ ws F → RWs K G H σ2 ρ2 (strip ws) F
  | [], _, h => h
  | (x, .v k d) :: ws, F, ⟨F1, F2, h2, h3, h4⟩ => ⟨F1, F2, h2, h3, RWs.strip (ws := ws) h4⟩
  | (x, .r i) :: ws, F, ⟨h1, h2, h3⟩ => RWs.strip (ws := ws) h3
theorem RWs.unstrip {σ2 : L2.St} {ρ2 : Env} : ∀ {pre ws : List (V × Arg)} {F F0 : List Addr}, noRef pre = true → RWs K G H σ ρ ws F0 → RWs K G4 H4 σ2 ρ2 (pre ++ Pv.strip ws) F → RWs K G4 H4 σ ρ (pre ++ ws) F
  | (x, .v k d) :: pre, ws, F, F0, n, h, ⟨F1, F2, h2, h3, h4⟩ => ⟨F1, F2, h2, h3, RWs.unstrip (pre := pre) n h h4⟩
  | (x, .r i) :: pre, ws, F, F0, n, h, _ => by cases n
  | [], [], F, F0, _, _, h => h
  | [], (x, .v k d) :: ws, F, F0, _, ⟨_, _, _, _, h⟩, ⟨F1, F2, h2, h3, h4⟩ => ⟨F1, F2, h2, h3, RWs.unstrip (pre := []) rfl h h4⟩
  | [], (x, .r i) :: ws, F, F0, _, ⟨g1, g2, h⟩, h4 => ⟨g1, g2, RWs.unstrip (pre := []) rfl h h4⟩
def wipeE (ρ : Env) : List Nat → Env
  | [] => ρ
  | v :: vs => (wipeE ρ vs).set v none
theorem wipeE_len (ρ : Env) : ∀ vs, (wipeE ρ vs).length = ρ.length
  | [] => rfl
  | v :: vs => by show ((wipeE ρ vs).set v none).length = _; rw [List.length_set, wipeE_len ρ vs]
theorem wipeE_out {ρ : Env} {j : Nat} : ∀ {vs : List Nat}, j ∉ vs → (wipeE ρ vs)[j]? = ρ[j]?
  | [], _ => rfl
  | v :: vs, h => by
    simp only [List.mem_cons, not_or] at h
    show ((wipeE ρ vs).set v none)[j]? = _
    rw [List.getElem?_set_ne (Ne.symm h.1), wipeE_out h.2]
theorem wipeE_in {ρ : Env} {j : Nat} : ∀ {vs : List Nat}, j ∈ vs → plain0 (wipeE ρ vs)[j]?
  | [], h => by cases h
  | v :: vs, h => fun w e => by
    by_cases hv : v = j
    · subst hv
      have e' : ((wipeE ρ vs).set v none)[v]? = some (some w) := e
      rw [List.getElem?_set] at e'
      simp at e'
    · have hj : j ∈ vs := by
        rcases List.mem_cons.mp h with q | q
        · exact absurd q.symm hv
        · exact q
      have e' : ((wipeE ρ vs).set v none)[j]? = some (some w) := e
      rw [List.getElem?_set_ne hv] at e'
      exact wipeE_in hj w e'
theorem wipe_out {σ : L2.St} {j : Nat} : ∀ {vs : List Nat}, j ∉ vs → (wipe σ vs)[j]? = σ[j]?
  | [], _ => rfl
  | v :: vs, h => by
    simp only [List.mem_cons, not_or] at h
    show ((wipe σ vs).set v none)[j]? = _
    rw [List.getElem?_set_ne (Ne.symm h.1), wipe_out h.2]
theorem wipe_in {σ : L2.St} {j : Nat} : ∀ {vs : List Nat}, j ∈ vs → j < σ.length → (wipe σ vs)[j]? = some none
  | [], h, _ => by cases h
  | v :: vs, h, hl => by
    show ((wipe σ vs).set v none)[j]? = _
    by_cases hv : v = j
    · subst hv
      rw [List.getElem?_set_self (by rw [wipe_length]; exact hl)]
    · rw [List.getElem?_set_ne hv]
      rcases List.mem_cons.mp h with q | q
      · exact absurd q.symm hv
      · exact wipe_in q hl
theorem wipe_but {σ σ' : L2.St} {S vs : List Nat} (h : But S (wipe σ vs) σ') (hs : ∀ i ∈ S, i ∈ vs) : wipe σ' vs = wipe σ vs := by
  have hl : σ'.length = σ.length := by rw [h.1, wipe_length]
  refine List.ext_getElem? fun j => ?_
  by_cases hj : j ∈ vs
  · by_cases hlt : j < σ.length
    · rw [wipe_in hj hlt, wipe_in hj (by rw [hl]; exact hlt)]
    · rw [List.getElem?_eq_none (by rw [wipe_length]; omega), List.getElem?_eq_none (by rw [wipe_length]; omega)]
  · rw [wipe_out hj, h.2 j (fun z => hj (hs j z)), wipe_out hj]
theorem RSl.wiped {vs : List Nat} : ∀ (σ : L2.St) (ρ : Env) (F : List Addr), RSl K G H σ ρ F → σ.length = ρ.length → (∀ j ∈ vs, plain0 ρ[j]?) → RSl K G H (wipe σ vs) (wipeE ρ vs) F := by
  intro σ ρ F h hl hp
  -- one slot
  have one : ∀ (σ : L2.St) (ρ : Env) (F : List Addr) (i : Nat), RSl K G H σ ρ F → σ.length = ρ.length → plain0 ρ[i]? → RSl K G H (σ.set i none) (ρ.set i none) F := by
    intro σ ρ F i h hl hp
    by_cases hi : i < ρ.length
    · obtain ⟨Fa, Fi, Fb, e1, e2, e2', e3⟩ := RSl.zoom σ ρ F i h hi (by rw [hl]; exact hi)
      have hF : Fi = [] := by
        cases q : ρ[i]'hi with
        | none => exact e2' (by rw [List.getElem?_eq_getElem hi, q])
        | some w =>
          have q' : ρ[i]? = some (some w) := by rw [List.getElem?_eq_getElem hi, q]
          obtain ⟨v, _, r⟩ := e2 w q'
          exact (r.plain0 (hp w q')).2
      subst hF
      have := e3 G H none none [] (Same.refl _) (fun _ _ => rfl) (fun w e => by cases e) (fun _ => rfl)
      rw [e1]; exact this
    · rw [List.set_eq_of_length_le (by omega), List.set_eq_of_length_le (by omega)]; exact h
  have all : ∀ us : List Nat, (∀ j ∈ us, j ∈ vs) → RSl K G H (wipe σ us) (wipeE ρ us) F := by
    intro us
    induction us with
    | nil => intro _; exact h
    | cons u us ih =>
      intro hu
      refine one _ _ F u (ih fun j hj => hu j (List.mem_cons_of_mem _ hj)) (by rw [wipe_length, wipeE_len]; exact hl) ?_
      by_cases q : u ∈ us
      · exact wipeE_in q
      · rw [wipeE_out q]; exact hp u (hu u List.mem_cons_self)
  exact all vs fun _ h => h
mutual
theorem bindT_but : ∀ (t : Tg) (w : W) (ρ ρ' : Env), bindT t w ρ = some ρ' → ρ'.length = ρ.length ∧ (∀ j : Nat, j ∉ slotsT t → ρ'[j]? = ρ[j]?) ∧ (w.1 = 0 → ∀ j : Nat, plain0 ρ[j]? → plain0 ρ'[j]?)
  | .nm i, w, ρ, ρ', h => by
    unfold bindT at h
    split at h
    · rename_i hi
      cases h
      refine ⟨List.length_set, fun j hj => ?_, fun hw j hp => ?_⟩
      · have : j ≠ i := by simpa [slotsT] using hj
        rw [List.getElem?_set_ne (Ne.symm this)]
      · by_cases hj : i = j
        · subst hj
          rw [List.getElem?_set_self hi]
          intro w' e
          cases e
          exact .inl hw
        · rw [List.getElem?_set_ne hj]; exact hp
    · cases h
  | .tp ts, w, ρ, ρ', h => by
    unfold bindT at h
    split at h
    · split at h
      · obtain ⟨h1, h2, h3⟩ := bindTs_but ts _ ρ ρ' h
        exact ⟨h1, h2, fun _ => h3⟩
      · cases h
    · cases h
theorem bindTs_but : ∀ (ts : List Tg) (ds : List D) (ρ ρ' : Env), bindTs ts ds ρ = some ρ' → ρ'.length = ρ.length ∧ (∀ j : Nat, j ∉ slotsTs ts → ρ'[j]? = ρ[j]?) ∧ (∀ j : Nat, plain0 ρ[j]? → plain0 ρ'[j]?)
  | [], ds, ρ, ρ', h => by
    have : ρ = ρ' := by simpa [bindTs] using h
    subst this
    exact ⟨rfl, fun _ _ => rfl, fun _ h => h⟩
  | t :: ts, [], ρ, ρ', h => by cases h
  | t :: ts, d :: ds, ρ, ρ', h => by
    obtain ⟨ρ1, h1, h2⟩ := Option.bind_eq_some_iff.mp h
    obtain ⟨a1, a2, a3⟩ := bindT_but t (0, d) ρ ρ1 h1
    obtain ⟨b1, b2, b3⟩ := bindTs_but ts ds ρ1 ρ' h2
    refine ⟨b1.trans a1, fun j hj => ?_, fun j hp => b3 j (a3 rfl j hp)⟩
    simp only [slotsTs, List.mem_append, not_or] at hj
    rw [b2 j hj.2, a2 j hj.1]
end
/-! ### list comprehensions -/
def lvlOk (j k : Nat) (d : D) : Bool := (j == 0) || (k == j) || !isBox d
def compL (t : Tg) (T : Fb) (A : Fe) (j : Nat) (ρ : Env) : List D → Option (List D)
  | [] => some []
  | d :: ds => (bindT t (0, d) ρ).bind fun ρ1 => (T ρ1).bind fun b => if b = true then (A ρ1).bind fun a => match a with
      | .v k x => if lvlOk j k x = true then (compL t T A j ρ ds).map fun r => x :: r else none
      | .r _ => none
    else compL t T A j ρ ds
def lvl0 (o : Option (Option W)) : Bool := match o with
  | some (some w) => (w.1 == 0) || !isBox w.2
  | _ => true
theorem lvl0_plain {o : Option (Option W)} (h : lvl0 o = true) : plain0 o := fun w e => by
  subst e
  simpa [lvl0] using h
def pLc (j : Nat) (it : Fit) (t : Tg) (vs : List Nat) (T : Fb) (A : Fe) : Fe := fun ρ => if (vs.all fun v => lvl0 ρ[v]?) = true then (it ρ).bind fun ds => if ds.length ≤ big then (compL t T A j (wipeE ρ vs) ds).map fun out => .v (j + 1) (.lst out) else none else none
def OkTs (X : Cx) (ifs : List Expr) (T : Fb) : Prop := PTs X ifs (tT X.K T)
def bYes : Fb := fun _ => some true
theorem PTs.imp {X : Cx} {e : List Expr} {t t' : TT} (h : PTs X e t) (i : ∀ σ H Q, t' σ H Q → t σ H Q) : PTs X e t' := ⟨fun pins s σ H Q I q => h.run pins s σ H Q I (i σ H Q q)⟩
theorem ts_nil : OkTs X [] bYes := PTs.imp pts_nil fun σ H Q ⟨G0, ρ, ws, b, I, hf, q⟩ => by cases hf; exact q H I
theorem ts_one (h : OkT X c T) : OkTs X [c] T := pts_one h
theorem compL_len {t : Tg} {T : Fb} {A : Fe} {j : Nat} {ρ : Env} : ∀ {ds out : List D}, compL t T A j ρ ds = some out → out.length ≤ ds.length
  | [], out, h => by cases h; exact Nat.le_refl _
  | d :: ds, out, h => by
    obtain ⟨ρ1, _, h⟩ := Option.bind_eq_some_iff.mp h
    obtain ⟨b, _, h⟩ := Option.bind_eq_some_iff.mp h
    split at h
    · obtain ⟨a, _, h⟩ := Option.bind_eq_some_iff.mp h
      split at h
      · split at h
        · obtain ⟨r, hr, rfl⟩ := Option.map_eq_some_iff.mp h
          exact Nat.succ_le_succ (compL_len hr)
        · cases h
      · cases h
    · exact Nat.le_succ_of_le (compL_len h)
/-- the item made waits ahead of the list made: it goes into it -/
theorem Si.addItem {D : Addr} {j k : Nat} {acc : List Pv.D} {x : Pv.D} {y : V} (ok : lvlOk j k x = true) (I : Si K G0 σ ρ ((y, .v k x) :: (.ref D, .v (j + 1) (.lst acc)) :: ws) H G F1 F2) :
    ∃ xs, H D = some (.lst xs) ∧ xs.length = acc.length ∧ Pv.SI K G0 σ ρ ((.ref D, .v (j + 1) (.lst (acc ++ [x]))) :: ws) (upd H D (.lst (xs ++ [y]))) := by
  -- what the item is, at the list's depth
  have key : ∃ G1 Fy F2', Same G G1 ∧ Same G1 H ∧ RO K G1 H j x y Fy ∧ (∀ b o, H b = some o → ¬ isOwn o → G1 b = some o) ∧ Same G0 G1 ∧ RSl K G1 H σ ρ F1 ∧ RWs K G1 H σ ρ ((.ref D, .v (j + 1) (.lst acc)) :: ws) F2' ∧ (F1 ++ (Fy ++ F2')).Nodup ∧ ∀ b ∈ F1 ++ (Fy ++ F2'), G1 b = none := by
    unfold lvlOk at ok
    by_cases h0 : j = 0
    · subst h0
      obtain ⟨G1, F2', J, e, r⟩ := I.freeze
      exact ⟨G1, [], F2', e, J.ex, ⟨r, rfl⟩, J.tu, J.ex0, J.sl, J.wv, J.nd, J.fr⟩
    · obtain ⟨Fy, F2', e2, r, wv⟩ := I.wv
      subst e2
      by_cases hk : k = j
      · subst hk
        exact ⟨G, Fy, F2', Same.refl _, I.ex, r, I.tu, I.ex0, I.sl, wv, I.nd, I.fr⟩
      · have nb : isBox x = false := by simpa [h0, hk] using ok
        obtain ⟨r1, hF⟩ := r.plain nb
        subst hF
        exact ⟨G, [], F2', Same.refl _, I.ex, RO.of_plain (w := (j, x)) (.inr nb) r1, I.tu, I.ex0, I.sl, wv, I.nd, I.fr⟩
  obtain ⟨G1, Fy, F2', e, ex, ry, tu, ex0, sl, wv, nd, fr⟩ := key
  obtain ⟨Fl, Fw, e2, ⟨D', xs, Fi, h1, h2, h3, h4⟩, hw⟩ := wv
  cases h1
  subst h3 e2
  refine ⟨xs, h2, h4.len, ?_⟩
  have nd' := nd
  simp only [List.nodup_append, List.mem_append, List.nodup_cons, List.mem_cons, List.cons_append] at nd'
  obtain ⟨n1, ⟨n2, ⟨n3, n4, n5, n6⟩, n7⟩, n8⟩ := nd'
  have ne : ∀ b, b ∈ F1 ∨ b ∈ Fy ∨ b ∈ Fi ∨ b ∈ Fw → (upd H D (.lst (xs ++ [y]))) b = H b := fun b hb => upd_ne fun z => by
    subst z
    rcases hb with hb | hb | hb | hb
    · exact n8 b hb b (.inr (.inl rfl)) rfl
    · exact n7 b hb b (.inl rfl) rfl
    · exact n3 (.inl hb)
    · exact n3 (.inr hb)
  have snoc : ∀ (ds : List Pv.D) (us : List V) (Fa : List Addr), ROs (RO K G1 H j) ds us Fa → ROs (RO K G1 H j) (ds ++ [x]) (us ++ [y]) (Fa ++ Fy) := by
    intro ds
    induction ds with
    | nil =>
      intro us Fa ⟨q1, q2⟩
      subst q1 q2
      exact ⟨y, [], Fy, [], rfl, by simp, ry, rfl, rfl⟩
    | cons d ds ih =>
      intro us Fa ⟨u, r, Fc, Fd, q1, q2, q3, q4⟩
      subst q1 q2
      exact ⟨u, r ++ [y], Fc, Fd ++ Fy, rfl, by simp [List.append_assoc], q3, ih r Fd q4⟩
  have hD1 : G1 D = none := fr D (by simp)
  refine ⟨G1, F1, (D :: (Fi ++ Fy)) ++ Fw, ex0, fun b o q => ?_, RSl.mono (Same.refl _) _ _ _ (fun b hb => ne b (.inl hb)) sl, ⟨D :: (Fi ++ Fy), Fw, rfl, ⟨D, xs ++ [y], Fi ++ Fy, rfl, upd_same, rfl, ?_⟩, RWs.mono (Same.refl _) _ _ (fun b hb => ne b (.inr (.inr (.inr hb)))) hw⟩, ?_, fun b hb => ?_, fun b o q1 q2 => ?_, I.ln⟩
  · rw [upd_ne (ne_of_none q hD1)]; exact ex b o q
  · exact ROs.imp _ _ _ (fun d v F sub r => RO.mono (Same.refl _) _ _ _ _ (fun b hb => ne b (by
      rcases List.mem_append.mp (sub b hb) with z | z
      · exact .inr (.inr (.inl z))
      · exact .inr (.inl z))) r) (snoc acc xs Fi h4)
  · simp only [List.nodup_append, List.nodup_cons, List.mem_append, List.mem_cons, List.cons_append]
    refine ⟨n1, ⟨fun z => ?_, ⟨n4, n2, fun p hp q hq e => ?_⟩, n5, fun p hp q hq e => ?_⟩, fun p hp q hq e => ?_⟩
    · rcases z with (z | z) | z
      · exact n3 (.inl z)
      · exact n7 D z D (.inl rfl) rfl
      · exact n3 (.inr z)
    · subst e; exact n7 p hq p (.inr (.inl hp)) rfl
    · subst e
      rcases hp with hp | hp
      · exact n6 p hp p hq rfl
      · exact n7 p hp p (.inr (.inr hq)) rfl
    · subst e
      rcases hq with hq | (hq | hq) | hq
      · exact n8 p hp p (.inr (.inl hq)) rfl
      · exact n8 p hp p (.inr (.inr (.inl hq))) rfl
      · exact n8 p hp p (.inl hq) rfl
      · exact n8 p hp p (.inr (.inr (.inr hq))) rfl
  · apply fr
    simp only [List.mem_append, List.mem_cons, List.cons_append] at hb ⊢
    rcases hb with hb | hb | (hb | hb) | hb
    · exact .inl hb
    · exact .inr (.inr (.inl hb))
    · exact .inr (.inr (.inr (.inl hb)))
    · exact .inr (.inl hb)
    · exact .inr (.inr (.inr (.inr hb)))
  · by_cases hb : b = D
    · subst hb; rw [upd_same] at q1; cases q1; exact absurd trivial q2
    · rw [upd_ne hb] at q1; exact tu b o q1 q2
/-- back from the block -/
theorem Si.unwipe {σ2 : L2.St} {ρ2 : Env} {vs : List Nat} {pre : List (V × Arg)} {F3 F4 : List Addr} (J : Si K G1 σ ρ ws H G F1 F2) (I : Si K G σ2 ρ2 (pre ++ strip ws) H4 G4 F3 F4) (np : noRef pre = true) (hl : ρ2.length = ρ.length) (hl2 : σ2.length = σ.length)
    (p1 : ∀ j ∈ vs, plain0 ρ[j]? ∧ plain0 ρ2[j]?) (p2 : ∀ j, j ∉ vs → ρ2[j]? = ρ[j]? ∧ σ2[j]? = σ[j]?) : Si K G1 σ ρ (pre ++ ws) H4 G4 F3 F4 :=
  ⟨J.ex0.trans I.ex0, I.ex, RSl.merge I.ex0 σ ρ σ2 ρ2 (fun j => j ∈ vs) F1 F3 J.sl I.sl J.ln hl hl2 p1 p2, RWs.unstrip np J.wv I.wv, I.nd, I.fr, I.tu, J.ln⟩
theorem lc_imp {j : Nat} {it : Fit} {t : Tg} {vs : List Nat} (hsub : ∀ i ∈ slotsT t, i ∈ vs) (σ : L2.St) (H : Hp) (Q : VK) (h : tE K (pLc j it t vs T A) σ H Q) : tLc (tIc K it) (tG K t) (tT K T) (tE K A) vs σ H Q := by
  obtain ⟨G0, ρ, ws, a, I, hf, q⟩ := h
  unfold pLc at hf
  split at hf
  · rename_i hv
    obtain ⟨ds, hds, hf⟩ := Option.bind_eq_some_iff.mp hf
    split at hf
    · rename_i hbig
      obtain ⟨out, ho, rfl⟩ := Option.map_eq_some_iff.mp hf
      have hv' : ∀ v ∈ vs, plain0 ρ[v]? := fun v hm => lvl0_plain (List.all_eq_true.mp hv v hm)
      refine ⟨G0, ρ, ws, ds, I, hds, fun J H1 G1 e01 I1 items Dl hD => ?_⟩
      refine ⟨fun i m H => m = ds.length - i ∧ i ≤ ds.length ∧ ∃ acc rest, SI K G1 σ ρ ((.ref Dl, .v (j + 1) (.lst acc)) :: ws) H ∧ compL t T A j (wipeE ρ vs) (ds.drop i) = some rest ∧ acc ++ rest = out ∧ acc.length ≤ i, ⟨ds.length, by simp, Nat.zero_le _, [], out, ?_, ho, rfl, Nat.le_refl _⟩, ?_⟩
      · obtain ⟨G, F1, F2, S⟩ := I1
        have g := Grow.newO (o := .lst []) S.ex hD trivial
        exact (S.push (k := j + 1) (d := .lst []) g ⟨Dl, [], [], rfl, upd_same, rfl, rfl, rfl⟩).SI
      · rintro i m H2 ⟨rfl, hi, acc, rest, I2, hc, hout, hacc⟩
        by_cases hlt : i < ds.length
        · obtain ⟨G, F1, F2, S⟩ := I2
          refine .inr ⟨items.goes i G H2 hlt ⟨_, _, _, S⟩, ?_⟩
          rw [List.drop_eq_getElem_cons hlt] at hc
          obtain ⟨ρ1, hb1, hc⟩ := Option.bind_eq_some_iff.mp hc
          obtain ⟨b, hT, hc⟩ := Option.bind_eq_some_iff.mp hc
          refine ⟨fun H => ∃ acc rest, SI K G1 σ ρ ((.ref Dl, .v (j + 1) (.lst acc)) :: ws) H ∧ compL t T A j (wipeE ρ vs) (ds.drop (i + 1)) = some rest ∧ acc ++ rest = out ∧ acc.length ≤ i + 1, fun H' ⟨acc, rest, h1, h2, h3, h4⟩ => ⟨ds.length - (i + 1), by omega, rfl, hlt, acc, rest, h1, h2, h3, h4⟩, fun x H' y => ?_⟩
          obtain ⟨G', d, gr, hd, rd⟩ := items.yields i G H2 x H' hlt ⟨_, _, _, S⟩ y
          have ed : d = ds[i] := by rw [List.getElem?_eq_getElem hlt] at hd; exact (Option.some.inj hd).symm
          subst ed
          have S3 := S.grow gr
          -- within the block
          have Sw : Si K G' (wipe σ vs) (wipeE ρ vs) ((.ref Dl, .v (j + 1) (.lst acc)) :: strip ws) H' G' F1 F2 :=
            ⟨Same.refl _, S3.ex, RSl.wiped σ ρ F1 S3.sl S3.ln hv', by exact RWs.strip (ws := (.ref Dl, .v (j + 1) (.lst acc)) :: ws) S3.wv, S3.nd, S3.fr, S3.tu, by rw [wipe_length, wipeE_len]; exact S3.ln⟩
          obtain ⟨b1, b2, b3⟩ := bindT_but t (0, ds[i]) _ ρ1 hb1
          have hl1 : ρ1.length = ρ.length := by rw [b1, wipeE_len]
          have p1 : ∀ k ∈ vs, plain0 ρ[k]? ∧ plain0 ρ1[k]? := fun k hk => ⟨hv' k hk, b3 rfl k (wipeE_in hk)⟩
          refine ⟨G', wipeE ρ vs, (.ref Dl, .v (j + 1) (.lst acc)) :: strip ws, 0, ds[i], ρ1, noRef_strip ws, (Sw.pushF rd).SI, hb1, fun σ' but I' => ⟨wipe_but but hsub, G', ρ1, _, b, I', hT, fun H3 I3 => ?_⟩⟩
          have hl2 : σ'.length = σ.length := by rw [but.1, wipe_length]
          have p2 : ∀ k, k ∉ vs → ρ1[k]? = ρ[k]? ∧ σ'[k]? = σ[k]? := fun k hk => ⟨by rw [b2 k (fun z => hk (hsub k z)), wipeE_out hk], by rw [but.2 k (fun z => hk (hsub k z)), wipe_out hk]⟩
          cases b with
          | false =>
            rw [if_neg Bool.false_ne_true] at hc
            refine iteF ?_
            obtain ⟨G5, F5, F6, S5⟩ := I3
            have S6 := Si.unwipe (pre := []) (ws := (.ref Dl, .v (j + 1) (.lst acc)) :: ws) S3 S5 rfl hl1 hl2 p1 p2
            exact ⟨acc, rest, S6.SI, hc, hout, Nat.le_succ_of_le hacc⟩
          | true =>
            rw [if_pos rfl] at hc
            refine iteT ?_
            obtain ⟨a, hA, hc⟩ := Option.bind_eq_some_iff.mp hc
            cases a with
            | r n => cases hc
            | v k xd =>
              simp only at hc
              split at hc
              · rename_i hlv
                obtain ⟨rest', hr', rfl⟩ := Option.map_eq_some_iff.mp hc
                refine ⟨G', ρ1, _, _, I3, hA, fun y4 H4 I4 => ?_⟩
                obtain ⟨G5, F5, F6, S5⟩ := I4
                have S6 := Si.unwipe (pre := [(y4, .v k xd)]) (ws := (.ref Dl, .v (j + 1) (.lst acc)) :: ws) S3 S5 rfl hl1 hl2 p1 p2
                obtain ⟨xs, hx1, hx2, hx3⟩ := Si.addItem hlv S6
                refine ⟨xs, hx1, ?_, acc ++ [xd], rest', hx3, hr', by rw [List.append_assoc]; exact hout, by rw [List.length_append]; exact Nat.succ_le_succ hacc⟩
                rw [hx2]
                exact big_lt (by omega)
              · cases hc
        · have ei : i = ds.length := by omega
          subst ei
          rw [List.drop_length] at hc
          cases hc
          rw [List.append_nil] at hout
          subst hout
          obtain ⟨G, F1, F2, S⟩ := I2
          exact .inl ⟨items.stops G H2 ⟨_, _, _, S⟩, q _ H2 (S.SI.base e01)⟩
    · cases hf
  · cases hf
theorem e_lc {j : Nat} {it : Fit} {t : Tg} {elt tg iter : Expr} {ifs : List Expr} {scope : Scope} {own : List (Str × Nat)} (hc : X.calm = true) (hN : X.N.Nodup) (hi : OkIc X tg iter it) (ok : BlkOk X.N X.env.scope scope own)
    (hg : ∀ (s : Shared) (H : Hp) (C : Addr) (cl : List (Str × Addr)) (fp : List Addr), OkG (X.blk s H scope (compEnvC scope cl C X.env) fp) tg t) (ht : ∀ (s : Shared) (H : Hp) (C : Addr) (cl : List (Str × Addr)) (fp : List Addr), OkTs (X.blk s H scope (compEnvC scope cl C X.env) fp) ifs T)
    (he : ∀ (s : Shared) (H : Hp) (C : Addr) (cl : List (Str × Addr)) (fp : List Addr), OkE (X.blk s H scope (compEnvC scope cl C X.env) fp) elt A) (hsub : ∀ i ∈ slotsT t, i ∈ own.map (·.2) := by decide) (hs : ∀ x, foldedSetIterable iter X.env x = pure x := by exact fun _ => rfl) :
    OkE X (.ListComp elt [⟨tg, iter, ifs, 0⟩] scope pos) (pLc j it t (own.map (·.2)) T A) := PE.imp (pe_lc (g := tG X.K t) (tt := tT X.K T) (te := tE X.K A) hc hN hi ok hg ht he hs) (lc_imp hsub)
/-- x = [..] on one line -/
theorem s_setLc {i j : Nat} {y : Str} {py : Pos} {it : Fit} {t : Tg} {elt tg iter : Expr} {ifs : List Expr} {scope : Scope} {own : List (Str × Nat)} {spos : Pos} (hc : X.calm = true) (hN : X.N.Nodup) (hsw : swapsWith (.ListComp elt [⟨tg, iter, ifs, 0⟩] scope pos) (some (.Name y py)) spos.line X.env = pure true)
    (hi : OkIc X tg iter it) (ok : BlkOk X.N X.env.scope scope own)
    (hg : ∀ (s : Shared) (H : Hp) (C : Addr) (cl : List (Str × Addr)) (fp : List Addr), OkG (X.blk s H scope (compEnvC scope cl C X.env) fp) tg t) (ht : ∀ (s : Shared) (H : Hp) (C : Addr) (cl : List (Str × Addr)) (fp : List Addr), OkTs (X.blk s H scope (compEnvC scope cl C X.env) fp) ifs T)
    (he : ∀ (s : Shared) (H : Hp) (C : Addr) (cl : List (Str × Addr)) (fp : List Addr), OkE (X.blk s H scope (compEnvC scope cl C X.env) fp) elt A) (hy : X.N[i]? = some y := by rfl) (hyl : X.env.scope.names.lookup y = some .local := by rfl) (hsub : ∀ i ∈ slotsT t, i ∈ own.map (·.2) := by decide) (hs : ∀ x, foldedSetIterable iter X.env x = pure x := by exact fun _ => rfl) :
    OkS X (.Assign [.Name y py] (.ListComp elt [⟨tg, iter, ifs, 0⟩] scope pos) spos) (sAsg i (pLc j it t (own.map (·.2)) T A)) := PS.imp (ps_setLc (g := tG X.K t) (tt := tT X.K T) (te := tE X.K A) hc hN hy hyl hsw hi ok hg ht he hs) fun D σ H h => lc_imp hsub σ H _ (asg_imp σ H h)
/-! ### what a comprehension walks -/
/-- a list, also one that a slot owns -/
def iLc (A : Fe) : Fit := fun ρ => (val A ρ).bind fun w => match w.2 with
  | .lst ds => if w.1 ≤ 1 then some ds else none
  | _ => none
end
end Pv
set_option Elab.async false
set_option linter.all false
set_option maxRecDepth 100000
/-! P9: sources of comprehensions, lists changed in place, own defs -/
namespace Pv
open PySem PySem.Spec PyProof.Rows L2
section
variable {X : Cx} {K : PySem.W.Frag} {G0 G G1 G' G4 H H' H4 : Hp} {σ : L2.St} {ρ : Env} {ws : List (V × Arg)} {F1 F2 : List Addr} {e a b c tg : Expr} {es : List Expr} {pos : Pos} {A B C : Fe} {T : Fb} {st : Stmt} {rest body : List Stmt} {f g : Fs}
/-! ### what a comprehension walks -/
theorem Items.listS {p : Addr} {ds : List D} {i : Nat} {k : Nat} (hk : k ≤ 1) (hρ : ρ[i]? = some (some (k, .lst ds))) (hσ : σ[i]? = some (some (.ref p))) : Items K (Itl K p) ds (fun G H => ∃ ws' F1 F2, Si K G1 σ ρ ws' H G F1 F2) := by
  have look : ∀ G H, (∃ ws' F1 F2, Si K G1 σ ρ ws' H G F1 F2) → Same G H ∧ ∃ xs, H p = some (.lst xs) ∧ RepFs K G ds xs := fun G H ⟨ws', F1, F2, I⟩ => by
    obtain ⟨v, Fi, h1, h2, _⟩ := I.sl.at hρ
    rw [hσ] at h1
    cases h1
    obtain ⟨a, xs, h3, h4, h5⟩ := RO.lst1 I.ex hk h2
    cases h3
    exact ⟨I.ex, xs, h4, h5⟩
  refine ⟨fun j G H hj P => ?_, fun G H P => ?_, fun j G H x H' hj P ⟨hy, hx⟩ => ?_⟩
  · obtain ⟨e, xs, h1, h2⟩ := look G H P
    exact ⟨xs, xs[j]'(by rw [h2.len]; exact hj), SqL.of h1, by simp [h2.len, hj]⟩
  · obtain ⟨e, xs, h1, h2⟩ := look G H P
    exact ⟨xs, SqL.of h1, by rw [h2.len]; exact Nat.le_refl _⟩
  · obtain ⟨e, xs, h1, h2⟩ := look G H P
    subst hy
    obtain ⟨z, h3, h4⟩ := h2.get (List.getElem?_eq_getElem hj)
    have := hx xs (SqL.of h1)
    rw [h3] at this
    cases this
    exact ⟨G, ds[j], Grow.refl e, List.getElem?_eq_getElem hj, h4⟩
theorem c_list (h : OkE X e A) : OkIc X tg e (iLc A) := PI.imp (pi_list h) fun σ H R ⟨G0, ρ, ws, ds, I, hf, q⟩ => by
  obtain ⟨w, hw, hf⟩ := Option.bind_eq_some_iff.mp hf
  obtain ⟨a, ha, hg⟩ := val_some hw
  obtain ⟨k, d⟩ := w
  cases d <;> first | (cases hf; done) | skip
  simp only at hf
  split at hf
  · rename_i hk
    cases hf
    refine ⟨G0, ρ, ws, a, I, ha, fun v H1 I1 => ?_⟩
    obtain ⟨G, F1, F2, J⟩ := I1
    cases a with
    | v k' d' =>
      cases hg
      obtain ⟨G1, F2', J1, e1, r1⟩ := J.freeze
      obtain ⟨p, xs, rfl, h1, h2⟩ := r1
      exact ⟨p, rfl, ⟨xs, SqL.of (J1.ex _ _ h1)⟩, q _ H1 G1 J1.ex0 J1.up (Items.listF h1 h2).toC⟩
    | r i =>
      have hρ : ρ[i]? = some (some (k, .lst ds)) := join_some hg
      obtain ⟨h1, _, _⟩ := J.wv
      obtain ⟨F2', _, J'⟩ := J.drop
      obtain ⟨v', Fi, q1, q2, _⟩ := J'.sl.at hρ
      rw [h1] at q1
      cases q1
      obtain ⟨p, xs, rfl, h3, h4⟩ := RO.lst1 J'.ex hk q2
      exact ⟨p, rfl, ⟨xs, SqL.of h3⟩, q _ H1 G0 (Same.refl _) J'.SI (Items.listS hk hρ h1)⟩
  · cases hf
theorem c_tup (h : OkE X e A) : OkIc X tg e (iValT A) := PI.imp (pi_tup h) fun σ H R ⟨G0, ρ, ws, ds, I, hf, q⟩ => by
  obtain ⟨w, hw, hf⟩ := Option.bind_eq_some_iff.mp hf
  obtain ⟨a, ha, hg⟩ := val_some hw
  refine ⟨G0, ρ, ws, a, I, ha, fun v H1 I1 => ?_⟩
  obtain ⟨G, F1, F2, J⟩ := I1
  obtain ⟨Fx, rx⟩ := J.top hg
  obtain ⟨p, xs, rfl, h1, h2⟩ := tupK_rep hf rx
  obtain ⟨F2', _, J'⟩ := J.drop
  exact ⟨p, rfl, ⟨xs, same_t J.ex h1⟩, q _ H1 G J'.ex0 J'.up (Items.tupF h1 h2).toC⟩
theorem c_range1 {p : Pos} (hg : Gl X "range") (hm : X.mg "range" = none) (ha : OkE X a A) (hs : starEach [a] X.env = [(false, eval a X.env)] := by rfl) : OkIc X tg (.Call (.Name "range" p) [a] [] pos) (iRange1 A) :=
  PI.imp (pi_range1 (ta := tA X.K (aCons A aNil)) hg hm (a_cons ha a_nil hs) hs) fun σ H R ⟨G0, ρ, ws, ds, I, hf, q⟩ => by
  obtain ⟨w, hw, hf⟩ := Option.bind_eq_some_iff.mp hf
  obtain ⟨k, d⟩ := w
  cases d <;> first | (cases hf; done) | skip
  rename_i n
  simp only at hf
  split at hf
  · rename_i hn
    cases hf
    refine val1 I hw fun v H1 G F1 F2 Fx J rx => ?_
    obtain rfl := rx.int
    exact ⟨n, rfl, by omega, by omega, q _ H1 G J.ex0 J.up Items.rng.toC⟩
  · cases hf
theorem c_range2 {p : Pos} (hg : Gl X "range") (hm : X.mg "range" = none) (ha : OkE X a A) (hb : OkE X b B) (hs : starEach [a, b] X.env = [(false, eval a X.env), (false, eval b X.env)] := by rfl) (hs2 : starEach [b] X.env = [(false, eval b X.env)] := by rfl) :
    OkIc X tg (.Call (.Name "range" p) [a, b] [] pos) (iRange2 A B) :=
  PI.imp (pi_range2 (ta := tA X.K (aCons A (aCons B aNil))) hg hm (a_cons ha (a_cons hb a_nil hs2) (by rw [hs, hs2])) hs hs2) fun σ H R ⟨G0, ρ, ws, ds, I, hf, q⟩ => by
  obtain ⟨w, hw, hf⟩ := Option.bind_eq_some_iff.mp hf
  obtain ⟨u, hu, hf⟩ := Option.bind_eq_some_iff.mp hf
  obtain ⟨k, d⟩ := w
  obtain ⟨l, c⟩ := u
  cases d <;> first | (cases hf; done) | skip
  cases c <;> first | (cases hf; done) | skip
  simp only at hf
  split at hf
  · rename_i hn
    cases hf
    refine val2 I hw hu fun v y H1 G F1 F2 Fx Fy J rx ry => ?_
    obtain rfl := rx.int
    obtain rfl := ry.int
    exact ⟨_, _, rfl, ⟨by omega, by omega, by omega, by omega⟩, q _ H1 G J.ex0 J.up Items.rng.toC⟩
  · cases hf
/-! ### a slot frozen -/
theorem Si.slot {i : Nat} {w : W} (I : Si K G0 σ ρ ws H G F1 F2) (h : ρ[i]? = some (some w)) : ∃ v Fa Fi Fb, F1 = Fa ++ Fi ++ Fb ∧ σ[i]? = some (some v) ∧ RO K G H w.1 w.2 v Fi ∧
    ∀ (G' H' : Hp) (w' : W) (Fi' : List Addr), Same G G' → (∀ b ∈ Fa ++ Fb, H' b = H b) → RO K G' H' w'.1 w'.2 v Fi' → RSl K G' H' σ (ρ.set i (some w')) (Fa ++ Fi' ++ Fb) := by
  have hi : i < ρ.length := (List.getElem?_eq_some_iff.mp h).1
  obtain ⟨Fa, Fi, Fb, e1, e2, _, e3⟩ := RSl.zoom σ ρ F1 i I.sl hi (by rw [I.ln]; exact hi)
  obtain ⟨v, h1, h2⟩ := e2 w h
  refine ⟨v, Fa, Fi, Fb, e1, h1, h2, fun G' H' w' Fi' g1 g2 g3 => ?_⟩
  have := e3 G' H' (some v) (some w') Fi' g1 g2 (fun w e => by cases e; exact ⟨v, rfl, g3⟩) (fun e => by cases e)
  have hs : σ.set i (some v) = σ := by
    obtain ⟨hlt, e⟩ := List.getElem?_eq_some_iff.mp h1
    rw [← e, List.set_getElem_self]
  rw [hs] at this
  exact this
theorem Si.frzSlot {i k : Nat} {d : D} (I : Si K G0 σ ρ [] H G F1 F2) (h : ρ[i]? = some (some (k, d))) : Pv.SI K G0 σ (ρ.set i (some (0, d))) [] H := by
  obtain ⟨v, Fa, Fi, Fb, e1, h1, h2, h3⟩ := I.slot h
  subst e1
  have e2 : F2 = [] := I.wv
  subst e2
  have nd := I.nd
  simp only [List.nodup_append, List.mem_append, List.append_nil] at nd
  have e := same_lay (G := G) (H := H) (F := Fi) (fun a ha => I.fr a (by simp [ha]))
  have hout : ∀ b, b ∈ Fa ∨ b ∈ Fb → b ∉ Fi := fun b hb z => by
    rcases hb with hb | hb
    · exact nd.1.2.2 b hb b z rfl
    · exact nd.2.2 b (.inr z) b hb rfl
  refine ⟨lay G H Fi, Fa ++ [] ++ Fb, [], I.ex0.trans e, lay_same I.ex, h3 _ _ (0, d) [] e (fun _ _ => rfl) ⟨RO.toF e _ _ _ Fi (fun a ha => lay_in ha) h2, rfl⟩, rfl, ?_, fun b hb => ?_, fun b o q1 q2 => e b o (I.tu b o q1 q2), by rw [List.length_set]; exact I.ln⟩
  · simp only [List.nodup_append, List.mem_append, List.append_nil]
    exact ⟨nd.1.1, nd.2.1, fun p hp q hq => nd.2.2 p (.inl hp) q hq⟩
  · simp only [List.mem_append, List.append_nil] at hb
    rw [lay_out (hout b hb)]
    refine I.fr b ?_
    rcases hb with hb | hb <;> simp [hb]
/-- slot i is frozen, then f -/
def bFrz (i : Nat) (f : Fs) : Fs := fun ρ => ((ρ[i]?).join).bind fun w => f (ρ.set i (some (0, w.2)))
theorem b_frz (i : Nat) {sts : List Stmt} (h : OkB X sts f) : OkB X sts (bFrz i f) := PSs.imp h fun D σ H ⟨G0, ρ, fl, ρ', I, hf, post⟩ => by
  obtain ⟨w, hw, hf⟩ := Option.bind_eq_some_iff.mp hf
  obtain ⟨G, F1, F2, J⟩ := I
  exact ⟨G0, _, fl, ρ', J.frzSlot (k := w.1) (d := w.2) (join_some hw), hf, post⟩
/-! ### lists changed in place -/
theorem SI.upd {i : Nat} {p : Addr} {o : HO} {w w' : W} {v : V} {pre : List (V × Arg)} {Fa F' F'' Fb : List Addr} (I : Si K G0 σ ρ pre H G (Fa ++ (p :: F') ++ Fb) F2) (ho : isOwn o)
    (hs : ∀ (G' H' : Hp) (w' : W) (Fi' : List Addr), Same G G' → (∀ b ∈ Fa ++ Fb, H' b = H b) → RO K G' H' w'.1 w'.2 v Fi' → RSl K G' H' σ (ρ.set i (some w')) (Fa ++ Fi' ++ Fb))
    (nd : F''.Nodup) (sub : ∀ b ∈ F'', b ∈ F' ∨ b ∈ F2) (r : RO K G (upd H p o) w'.1 w'.2 v (p :: F'')) : SI K G0 σ (ρ.set i (some w')) [] (upd H p o) := by
  have n := I.nd
  have fr := I.fr
  simp only [List.nodup_append, List.mem_append, List.nodup_cons, List.mem_cons, List.cons_append] at n fr
  obtain ⟨⟨⟨n1, ⟨n2, n3⟩, n4⟩, n5, n6⟩, n7, n8⟩ := n
  have hp : ∀ b, b ∈ Fa ∨ b ∈ Fb → b ≠ p := fun b hb z => by
    subst z
    rcases hb with hb | hb
    · exact n4 b hb b (.inl rfl) rfl
    · exact n6 b (.inr (.inl rfl)) b hb rfl
  have hG : G p = none := fr p (by simp)
  refine ⟨G, Fa ++ (p :: F'') ++ Fb, [], I.ex0, fun b u q => ?_, hs G _ w' (p :: F'') (Same.refl _) (fun b hb => upd_ne (hp b (by simpa using hb))) r, rfl, ?_, fun b hb => ?_, fun b u q1 q2 => ?_, by rw [List.length_set]; exact I.ln⟩
  · rw [upd_ne (ne_of_none q hG)]; exact I.ex b u q
  · simp only [List.nodup_append, List.mem_append, List.nodup_cons, List.mem_cons, List.cons_append, List.append_nil]
    refine ⟨⟨n1, ⟨fun z => ?_, nd⟩, fun x hx y hy e => ?_⟩, n5, fun x hx y hy e => ?_⟩
    · rcases sub p z with q | q
      · exact n2 q
      · exact n8 p (.inl (.inr (.inl rfl))) p q rfl
    · subst e
      rcases hy with hy | hy
      · exact n4 x hx x (.inl hy) rfl
      · rcases sub x hy with q | q
        · exact n4 x hx x (.inr q) rfl
        · exact n8 x (.inl (.inl hx)) x q rfl
    · subst e
      rcases hx with hx | hx | hx
      · exact n6 x (.inl hx) x hy rfl
      · exact n6 x (.inr (.inl hx)) x hy rfl
      · rcases sub x hx with q | q
        · exact n6 x (.inr (.inr q)) x hy rfl
        · exact n8 x (.inr hy) x q rfl
  · apply fr
    simp only [List.mem_append, List.mem_cons, List.append_nil, List.cons_append] at hb
    rcases hb with (hb | hb | hb) | hb
    · exact .inl (.inl (.inl hb))
    · exact .inl (.inl (.inr (.inl hb)))
    · rcases sub b hb with q | q
      · exact .inl (.inl (.inr (.inr q)))
      · exact .inr q
    · exact .inl (.inr hb)
  · by_cases hb : b = p
    · subst hb; rw [upd_same] at q1; cases q1; exact absurd ho q2
    · rw [upd_ne hb] at q1; exact I.tu b u q1 q2
theorem ROs.snoc {R : D → V → List Addr → Prop} {x : D} {y : V} {Fy : List Addr} (ry : R x y Fy) : ∀ {ds : List D} {us : List V} {Fa : List Addr}, ROs R ds us Fa → ROs R (ds ++ [x]) (us ++ [y]) (Fa ++ Fy)
  | [], _, _, ⟨q1, q2⟩ => by subst q1 q2; exact ⟨y, [], Fy, [], rfl, by simp, ry, rfl, rfl⟩
  | d :: ds, _, _, ⟨u, r, Fc, Fd, q1, q2, q3, q4⟩ => by subst q1 q2; exact ⟨u, r ++ [y], Fc, Fd ++ Fy, rfl, by simp [List.append_assoc], q3, ROs.snoc ry q4⟩
/-- x.append(e), x in slot i -/
def sApp (i : Nat) (A : Fe) : Fs := fun ρ => ((ρ[i]?).join).bind fun w => match w with
  | (k + 1, .lst ds) => (A ρ).bind fun a => match a with
    | .v j d => if lvlOk k j d = true ∧ ds.length < big then some (.nx, ρ.set i (some (k + 1, .lst (ds ++ [d])))) else none
    | .r _ => none
  | _ => none
theorem app_core {i k j : Nat} {ds : List D} {d : D} {y : V} (ok : lvlOk k j d = true) (I : SI K G0 σ ρ [(y, .v j d)] H) (h : ρ[i]? = some (some (k + 1, .lst ds))) :
    ∃ p xs, σ[i]? = some (some (.ref p)) ∧ H p = some (.lst xs) ∧ xs.length = ds.length ∧ SI K G0 σ (ρ.set i (some (k + 1, .lst (ds ++ [d])))) [] (upd H p (.lst (xs ++ [y]))) := by
  obtain ⟨G, F1, F2, I⟩ := I
  have key : ∃ G1 F2' pre Fy, Si K G0 σ ρ pre H G1 F1 F2' ∧ RO K G1 H k d y Fy ∧ Fy.Nodup ∧ ∀ b ∈ Fy, b ∈ F2' := by
    unfold lvlOk at ok
    by_cases h0 : k = 0
    · subst h0
      obtain ⟨G1, F2', J, e, r⟩ := I.freeze
      exact ⟨G1, F2', [], [], J, ⟨r, rfl⟩, List.nodup_nil, fun b hb => by cases hb⟩
    · have wv := I.wv
      obtain ⟨Fy, Fz, e2, r, rz⟩ := wv
      have rz : Fz = [] := rz
      subst rz e2
      have nd := I.nd
      simp only [List.nodup_append, List.append_nil] at nd
      by_cases hk : j = k
      · subst hk
        exact ⟨G, _, _, Fy, I, r, nd.2.1, fun b hb => by simpa using hb⟩
      · have nb : isBox d = false := by simpa [h0, hk] using ok
        obtain ⟨r1, hF⟩ := r.plain nb
        subst hF
        exact ⟨G, _, _, [], I, RO.of_plain (w := (k, d)) (.inr nb) r1, List.nodup_nil, fun b hb => by cases hb⟩
  obtain ⟨G1, F2', pre, Fy, J, ry, nd, sub⟩ := key
  obtain ⟨v, Fa, Fi, Fb, e1, h1, h2, h3⟩ := J.slot h
  obtain ⟨p, xs, F', rfl, h4, rfl, h5⟩ := h2
  subst e1
  have hn := J.nd
  simp only [List.nodup_append, List.mem_append, List.nodup_cons, List.mem_cons, List.cons_append] at hn
  have pF : p ∉ F' := hn.1.1.2.1.1
  have pY : p ∉ Fy := fun z => hn.2.2 p (.inl (.inr (.inl rfl))) p (sub p z) rfl
  refine ⟨p, xs, h1, h4, h5.len, SI.upd (w := (k + 1, .lst ds)) (F'' := F' ++ Fy) J trivial h3 ?_ (fun b hb => ?_) ⟨p, xs ++ [y], F' ++ Fy, rfl, upd_same, rfl, ?_⟩⟩
  · refine List.nodup_append.mpr ⟨hn.1.1.2.1.2, nd, fun x hx z hz e => ?_⟩
    subst e
    exact hn.2.2 x (.inl (.inr (.inr hx))) x (sub x hz) rfl
  · rcases List.mem_append.mp hb with q | q
    · exact .inl q
    · exact .inr (sub b q)
  · refine ROs.imp _ _ _ (fun d v F s r => RO.mono (Same.refl _) _ _ _ _ (fun b hb => upd_ne fun z => ?_) r) (ROs.snoc (R := RO K G1 H k) ry h5)
    subst z
    rcases List.mem_append.mp (s b hb) with q | q
    · exact pF q
    · exact pY q
theorem s_app {i : Nat} {x : Str} {p apos cpos : Pos} (he : OkE X e A) (hN : X.N[i]? = some x := by rfl) (hv : Vis X.env.scope x := by first | exact Or.inl rfl | exact Or.inr (Or.inl rfl) | exact Or.inr (Or.inr rfl)) (hd : (x == ("__debug__" : Str)) = false := by decide) (hcd : (x == ("__classdict__" : Str)) = false := by decide)
    (hfew : ((backTo cpos (starEach [e] X.env)).all (fun x => !x.1) && (backToKw cpos (keywordEach [] X.env)).all (fun x => x.1.isSome) && decide ([e].length + ([] : List Keyword).length + (if ([] : List Keyword).isEmpty then 0 else 1) < 30)) = true := by rfl)
    (hline : (apos.endLine == cpos.line) = true := by rfl) (hs : starEach [e] X.env = (false, eval e X.env) :: starEach [] X.env := by rfl) (hsw : swapsWith (.Call (.Attribute (.Name x p) "append" apos) [e] [] cpos) none pos.line X.env = pure false := by rfl) :
    OkS X (.Expr (.Call (.Attribute (.Name x p) "append" apos) [e] [] cpos) pos) (sApp i A) :=
  PS.imp (ps_expr (pe_bm PySem.F.plainAttrs_list PySem.F.slot_list_append PySem.F.type_list_append mt_append (pe_var hN hv hd hcd) (pa_cons he pa_nil hs) (by rfl) hfew hline hs (by rfl)) hsw) fun D σ H ⟨G0, ρ, fl, ρ', I, hf, post⟩ => by
  obtain ⟨w, hw, hf⟩ := Option.bind_eq_some_iff.mp hf
  split at hf
  · rename_i k ds
    obtain ⟨a, ha, hf⟩ := Option.bind_eq_some_iff.mp hf
    cases a with
    | r j => cases hf
    | v j d =>
      simp only at hf
      split at hf
      · rename_i ok
        cases hf
        have hρ := join_some hw
        have hx : ∃ p xs, σ[i]? = some (some (.ref p)) ∧ H p = some (.lst xs) := by
          obtain ⟨G, F1, F2, J⟩ := I
          obtain ⟨v, Fi, h1, h2, _⟩ := J.sl.at hρ
          obtain ⟨p, xs, rfl, h3, _⟩ := RO.lstN J.ex h2
          exact ⟨p, xs, h1, h3⟩
        obtain ⟨p, xs, h1, h2⟩ := hx
        refine ⟨.ref p, h1, .inl ⟨rfl, xs, SqL.of h2⟩, G0, ρ, [], _, I, ha, fun y H1 I1 => ?_⟩
        obtain ⟨p', xs', q1, q2, q3, q4⟩ := app_core ok.1 I1 hρ
        rw [h1] at q1
        cases q1
        exact ⟨p, xs', y, rfl, rfl, q2, by rw [q3]; exact big_lt ok.2, post _ _ q4⟩
      · cases hf
  · cases hf
/-- x[j] = e, x in slot i a list of frozen items -/
def setAt {α : Type} (xs : List α) (i : Int) (v : α) : Option (List α) := (ixN xs.length i).map fun j => xs.set j v
theorem RepFs.set {x : D} {y : V} (r : RepF K G x y) : ∀ {ds : List D} {xs : List V} (j : Nat), RepFs K G ds xs → RepFs K G (ds.set j x) (xs.set j y)
  | [], _, j, h => by rw [show _ = [] from h]; simp; exact (rfl : ([] : List V) = [])
  | d :: ds, _, 0, ⟨z, t, h1, h2, h3⟩ => by rw [h1]; exact ⟨y, t, rfl, r, h3⟩
  | d :: ds, _, j + 1, ⟨z, t, h1, h2, h3⟩ => by rw [h1]; exact ⟨z, t.set j y, rfl, h2, RepFs.set r j h3⟩
def sSet (i : Nat) (B : Fe) (A : Fe) : Fs := fun ρ => (A ρ).bind fun a => match a with
  | .v _ d => ((ρ[i]?).join).bind fun w => match w with
    | (1, .lst ds) => (val B ρ).bind fun u => match u.2 with
      | .int n => (setAt ds n d).map fun ds' => (.nx, ρ.set i (some (1, .lst ds')))
      | _ => none
    | _ => none
  | .r _ => none
theorem s_set {i : Nat} {x : Str} {p tpos : Pos} (he : OkE X e A) (hb : OkE X b B) (hN : X.N[i]? = some x := by rfl) (hv : Vis X.env.scope x := by first | exact Or.inl rfl | exact Or.inr (Or.inl rfl) | exact Or.inr (Or.inr rfl)) (hd : (x == ("__debug__" : Str)) = false := by decide) (hcd : (x == ("__classdict__" : Str)) = false := by decide)
    (ha : ∀ v, assign (.Subscript (.Name x p) b tpos) X.env v = (do
      let ov ← holding [v] (eval (.Name x p) X.env)
      let iv ← holding [v, ov] (eval b X.env)
      standAt tpos
      holding [v, ov, iv] (setItem ov iv v)
      release [v, ov, iv] []) := by exact fun _ => rfl)
    (hs : swapsWithSole [.Subscript (.Name x p) b tpos] e pos.line X.env = pure false := by rfl) (hw : swappedStores [.Subscript (.Name x p) b tpos] e X.env = pure none := by rfl) (h1 : (assignEach [.Subscript (.Name x p) b tpos] X.env).map (·.2) = [assign (.Subscript (.Name x p) b tpos) X.env] := by rfl) :
    OkS X (.Assign [.Subscript (.Name x p) b tpos] e pos) (sSet i B A) := PS.imp (ps_asg he (pg_sub (pe_var hN hv hd hcd) hb set_list ha) hs hw h1) fun D σ H ⟨G0, ρ, fl, ρ', I, hf, post⟩ => by
  obtain ⟨a, ha, hf⟩ := Option.bind_eq_some_iff.mp hf
  cases a with
  | r j => cases hf
  | v j d =>
    obtain ⟨w, hw, hf⟩ := Option.bind_eq_some_iff.mp hf
    split at hf
    · rename_i ds
      obtain ⟨u, hu, hf⟩ := Option.bind_eq_some_iff.mp hf
      obtain ⟨l, c⟩ := u
      cases c <;> first | (cases hf; done) | skip
      rename_i n
      obtain ⟨ds', hds, hf⟩ := Option.map_eq_some_iff.mp hf
      cases hf
      obtain ⟨m, hm, rfl⟩ := Option.map_eq_some_iff.mp hds
      obtain ⟨a2, ha2, hg2⟩ := val_some hu
      have hρ := join_some hw
      refine ⟨G0, ρ, [], _, I, ha, fun y H1 I1 => ?_⟩
      have hx : ∃ p, σ[i]? = some (some (.ref p)) := by
        obtain ⟨G, F1, F2, J⟩ := I1
        obtain ⟨v, Fi, h1, h2, _⟩ := J.sl.at hρ
        obtain ⟨p, xs, rfl, h3, _⟩ := RO.lstN J.ex h2
        exact ⟨p, h1⟩
      obtain ⟨p, hp⟩ := hx
      refine ⟨.ref p, hp, G0, ρ, [(y, .v j d)], a2, I1, ha2, fun z H2 I2 => ?_⟩
      obtain ⟨G, F1, F2, J⟩ := I2
      obtain ⟨Fz, rz⟩ := J.top hg2
      obtain rfl := RO.int rz
      obtain ⟨F3, _, J1⟩ := J.drop
      obtain ⟨G2, F4, J2, e2, r2⟩ := J1.freeze
      obtain ⟨v, Fa, Fi, Fb, e1, h1, h2, h3⟩ := J2.slot hρ
      rw [hp] at h1
      cases h1
      obtain ⟨p', xs, F', q0, h4, rfl, h5⟩ := h2
      cases q0
      subst e1
      obtain ⟨h6, h7⟩ := ROs.to_F h5
      subst h7
      refine ⟨p, xs, n, m, rfl, rfl, h4, by rw [h6.len]; exact hm, post _ _ ?_⟩
      exact SI.upd (w := (1, .lst ds)) (F'' := []) J2 trivial h3 List.nodup_nil (fun b hb => by cases hb) ⟨p, xs.set m y, [], rfl, upd_same, rfl, ROs.of_F (RepFs.set r2 m h6)⟩
    · cases hf
/-! ### own defs -/
mutual
def noBox : D → Bool
  | .tup ds => noBoxs ds
  | .lst _ => false
  | .dct _ _ => false
  | .scr _ => false
  | .ktp ds => noBoxs ds
  | .non => true
  | .bl _ => true
  | .int _ => true
  | .str _ => true
def noBoxs : List D → Bool
  | [] => true
  | d :: ds => noBox d && noBoxs ds
end
def cleanD : Nat → D → Bool
  | k + 1, .lst ds => ds.all (cleanD k)
  | k + 1, .dct _ kvs => kvs.all fun p => cleanD k p.2
  | _, d => noBox d
mutual
theorem RepF.move (h : ∀ b o, ¬ isOwn o → G b = some o → G1 b = some o) : ∀ (d : D) (v : V), noBox d = true → RepF K G d v → RepF K G1 d v
  | .non, _, _, r => r
  | .bl _, _, _, r => r
  | .int _, _, _, r => r
  | .str _, _, _, r => r
  | .tup ds, _, n, ⟨a, xs, h1, h2, h3⟩ => ⟨a, xs, h1, h a _ (fun z => z) h2, RepFs.move h ds xs n h3⟩
  | .ktp ds, _, n, ⟨a, xs, h1, h2, h3⟩ => ⟨a, xs, h1, h2.elim .inl fun ⟨od, q1, q2⟩ => .inr ⟨od, q1, h a _ (fun z => z) q2⟩, RepFs.move h ds xs n h3⟩
  | .lst _, _, n, _ => by cases n
  | .dct _ _, _, n, _ => by cases n
  | .scr _, _, n, _ => by cases n
theorem RepFs.move (h : ∀ b o, ¬ isOwn o → G b = some o → G1 b = some o) : ∀ (ds : List D) (xs : List V), noBoxs ds = true → RepFs K G ds xs → RepFs K G1 ds xs
  | [], _, _, r => r
  | d :: ds, _, n, ⟨x, r, h1, h2, h3⟩ => by
    have n' : noBox d = true ∧ noBoxs ds = true := by
      have : (noBox d && noBoxs ds) = true := n
      simpa using this
    exact ⟨x, r, h1, RepF.move h d x n'.1 h2, RepFs.move h ds r n'.2 h3⟩
end
theorem ROs.impA {R R' : D → V → List Addr → Prop} : ∀ (ds : List D) (xs : List V) (F : List Addr), (∀ d ∈ ds, ∀ v F1, R d v F1 → R' d v F1) → ROs R ds xs F → ROs R' ds xs F
  | [], _, _, _, h => h
  | d :: ds, _, _, f, ⟨x, r, F1, F2, h1, h2, h3, h4⟩ => ⟨x, r, F1, F2, h1, h2, f d List.mem_cons_self _ _ h3, ROs.impA ds r F2 (fun d' hd => f d' (List.mem_cons_of_mem _ hd)) h4⟩
theorem ROk.impA {R R' : D → V → List Addr → Prop} : ∀ (ds : List (List Key × D)) (xs : List (List Key × V)) (F : List Addr), (∀ p ∈ ds, ∀ v F1, R p.2 v F1 → R' p.2 v F1) → ROk R ds xs F → ROk R' ds xs F
  | [], _, _, _, h => h
  | (k, d) :: ds, _, _, f, ⟨x, r, F1, F2, h1, h2, h3, h4⟩ => ⟨x, r, F1, F2, h1, h2, f (k, d) List.mem_cons_self _ _ h3, ROk.impA ds r F2 (fun d' hd => f d' (List.mem_cons_of_mem _ hd)) h4⟩
theorem RO.move (h : ∀ b o, ¬ isOwn o → G b = some o → G1 b = some o) : ∀ (k : Nat) (d : D) (v : V) (F : List Addr), cleanD k d = true → RO K G H k d v F → RO K G1 H k d v F
  | 0, d, v, _, n, r => ⟨RepF.move h d v (by cases d <;> exact n) r.1, r.2⟩
  | k + 1, .lst ds, _, _, n, ⟨a, xs, F', h1, h2, h3, h4⟩ => ⟨a, xs, F', h1, h2, h3, ROs.impA ds xs F' (fun d hd v F1 r => RO.move h k d v F1 (List.all_eq_true.mp n d hd) r) h4⟩
  | k + 1, .dct t ds, _, _, n, ⟨a, xs, F', h1, h2, h5, h3, h4⟩ => ⟨a, xs, F', h1, h2, h5, h3, ROk.impA ds xs F' (fun p hp v F1 r => RO.move h k p.2 v F1 (List.all_eq_true.mp n p hp) r) h4⟩
  | k + 1, .non, _, _, _, r => r
  | k + 1, .bl _, _, _, _, r => r
  | k + 1, .int _, _, _, _, r => r
  | k + 1, .str _, _, _, _, r => r
  | k + 1, .tup ds, v, _, n, r => ⟨RepF.move h (.tup ds) v n r.1, r.2⟩
  | k + 1, .scr _, _, _, n, _ => by cases n
  | k + 1, .ktp ds, v, _, n, r => ⟨RepF.move h (.ktp ds) v n r.1, r.2⟩
/-- what a def promises: m of the data -/
def spD (K : PySem.W.Frag) (m : List D → Option W) : Sp := fun vs H Q _ => ∃ ds w, RepFs K H ds vs ∧ m ds = some w ∧ ∀ v H', RetOk K H w v H' → Q v H'
theorem ret_res {w : W} {t : VK → Prop} (e : Same G H) (tu : ∀ b o, H b = some o → ¬ isOwn o → G b = some o) (hc : cleanD w.1 w.2 = true) (h : ∀ Q : VK, (∀ v H', RetOk K H w v H' → Q v H') → t Q) : Res K G H w t := fun Q q => h Q fun v H' ⟨G', F, e1, e2, r, nd, fr, tu'⟩ => by
  refine q v H' (fun b => if (H b).isSome = true then G b else G' b) F ⟨fun b o h1 => ?_, fun b o h1 => ?_, e1.trans e2, fun b h1 h2 => ?_, nd, fun a ha => ?_, fun b o h1 h2 h3 => ?_⟩ ?_
  · have := e b o h1
    simp [this, h1]
  · split at h1
    · exact e2 b o (e1 b o (e b o h1))
    · exact e2 b o h1
  · have : (H b).isSome = true := by
      cases q : H b with
      | none => exact absurd q h2
      | some _ => rfl
    simp [this, h1]
  · have g := fr a ha
    have hn : H a = none := e1.free g
    exact ⟨hn, by simp [hn, g]⟩
  · simp [h1]
    exact tu' b o h2 h3
  · refine RO.move (fun b xs hn hq => ?_) _ _ _ _ hc r
    cases q : H b with
    | none => simp [q, hq]
    | some o' =>
      have := e1 b o' q
      rw [hq] at this
      cases this
      simp [q, tu b _ q hn]
theorem row_F (e : Same G H) : ∀ {us : List W} {xs : List V}, ROW K G H us xs → RepFs K H (us.map (·.2)) xs
  | [], _, h => h
  | u :: us, _, ⟨x, r, F, h1, h2, h3⟩ => ⟨x, r, h1, RO.toF e _ _ _ F (fun _ _ => rfl) h2, row_F e h3⟩
theorem RepFs.app {ds es : List D} {xs ys : List V} (h : RepFs K G ds xs) (q : RepFs K G es ys) : RepFs K G (ds ++ es) (xs ++ ys) := h.append q
/-- the call of an own def by its name: dd, dvs the defaults that fill up -/
def pFn (m : List D → Option W) (dd : List D) (A : Fa) : Fe := fun ρ => (A ρ).bind fun as => (getAll ρ as).bind fun us => (m (us.map (·.2) ++ dd)).map fun w => .v w.1 w.2
structure FnD (X : Cx) (k : Nat) (x : Str) (m : List D → Option W) (dd : List D) : Prop where
  ex : ∃ (f : Addr) (fd : FuncData) (ps : List Str) (dvs : List V) (dus : List Value), FnOk X.prog X.w X.K X.mg X.base CX0 k f fd ps (spD X.K m) ∧ X.mg x = some (.ref f) ∧ PySem.W.keepIn X.K (.ref f) = true ∧ Binds X.K fd ps dus ∧ Vals dvs dus ∧ ∀ H, RepFs X.K H dd dvs
  cl : ∀ ds w, m ds = some w → cleanD w.1 w.2 = true
theorem fn_imp {m : List D → Option W} {dd : List D} {dvs : List V} {B : Fa} (cl : ∀ ds w, m ds = some w → cleanD w.1 w.2 = true) (hd : ∀ H, RepFs K H dd dvs) (σ : L2.St) (H : Hp) (Q : VK) (h : tE K (pFn m dd B) σ H Q) : tCall (spD K m) dvs E0 (tA K B) σ H Q := by
  obtain ⟨G0, ρ, ws, a, I, hf, q⟩ := h
  obtain ⟨as, has, hf⟩ := Option.bind_eq_some_iff.mp hf
  obtain ⟨us, hus, hf⟩ := Option.bind_eq_some_iff.mp hf
  obtain ⟨w, hw, rfl⟩ := Option.map_eq_some_iff.mp hf
  refine ⟨G0, ρ, ws, as, I, has, fun vs H1 hl I1 => ?_⟩
  obtain ⟨G, F1, F2, J⟩ := I1
  have rr := row_F J.ex (J.rows hl hus)
  refine ret_res (t := fun Q => spD K m (vs ++ dvs) H1 Q E0) J.ex J.tu (cl _ _ hw) (fun Q q => ⟨_, w, rr.app (hd H1), hw, q⟩) Q fun v H' G' F' gr rv => ?_
  obtain ⟨F2', J'⟩ := Si.dropN _ J
  exact q v H' (J'.push gr rv).SI
theorem e_fn {k : Nat} {x : Str} {m : List D → Option W} {dd : List D} {B : Fa} {p : Pos} (F : FnD X k x m dd) (hr : Room k X.A) (hg : Gl X x) (ha : OkA X (e :: es) B) (hx : Passes CX0 X E0) (hdb : (x == ("__debug__" : Str)) = false := by decide)
    (he : starEach (e :: es) X.env = (false, eval e X.env) :: starEach es X.env := by rfl) (hpl : (backTo pos (starEach es X.env)).any (·.1) = false := by rfl) : OkE X (.Call (.Name x p) (e :: es) [] pos) (pFn m dd B) := by
  obtain ⟨f, fd, ps, dvs, dus, h1, h2, h3, h4, h5, h6⟩ := F.ex
  exact PE.imp (pe_call h1 hr hg h2 h3 h4 h5 hx ha hdb he hpl) (fn_imp F.cl h6)
end
section
variable {P : Program} {w : World} {K : PySem.W.Frag} {mg : Str → Option Value} {base : Heap}
def initE (n : Nat) (ds : List D) : Env := ds.map (fun d => some (0, d)) ++ List.replicate (n - ds.length) none
theorem RSl.nones {K : PySem.W.Frag} {G H : Hp} : ∀ (n : Nat) (σ : L2.St), RSl K G H σ (List.replicate n none) []
  | 0, σ => by cases σ <;> rfl
  | n + 1, [] => by rw [List.replicate_succ]; exact RSl.nones n []
  | n + 1, s :: σ => by rw [List.replicate_succ]; exact RSl.nones n σ
theorem RSl.init {K : PySem.W.Frag} {G H : Hp} {n : Nat} : ∀ {ds : List D} {vs : List V} {τ : L2.St}, RepFs K G ds vs → RSl K G H (vs.map some ++ τ) (ds.map (fun d => some (0, d)) ++ List.replicate n none) []
  | [], vs, τ, h => by rw [show vs = [] from h]; exact RSl.nones n τ
  | d :: ds, _, τ, ⟨x, r, h1, h2, h3⟩ => by subst h1; exact ⟨x, [], [], rfl, rfl, ⟨h2, rfl⟩, RSl.init h3⟩
theorem SI.init {N : List Str} {ds : List D} {vs : List V} {H : Hp} (r : RepFs K H ds vs) : SI K H (L2.start N vs) (initE N.length ds) [] H := by
  refine ⟨H, [], [], Same.refl _, Same.refl _, ?_, rfl, List.nodup_nil, (fun a ha => by cases ha), fun b o h _ => h, ?_⟩
  · exact RSl.init r
  · unfold L2.start initE
    simp [r.len]
/-- what a body gives -/
def retOf : Fl → Option W
  | .rt w => some w
  | .nx => some (0, .non)
  | _ => none
def runB (n : Nat) (f : Fs) (ds : List D) : Option W := (f (initE n ds)).bind fun p => retOf p.1
/-- THE RULE for a def: its body as data, what it is worth -/
theorem fnD {x qual : Str} {st : Stmt} {f : Addr} {fd : FuncData} {N ps : List Str} {k : Nat} {m : List D → Option W} {bd : Fs} (F : Fun K x qual st f fd) (S : FnScope N ps (defScope st)) (len : ∀ ds w, m ds = some w → ds.length = ps.length)
    (hb : ∀ (cdv : Value) (A : Around) (outer : List PySem.Env) (s : Shared) (H : Hp), Room k (A.deeper (envOfC qual (defScope st) s.heap.objs.size f cdv)) → OkB (cxOf CX0 P w K mg base N qual (defScope st) f cdv A outer s H E0).nox (defBody st) bd)
    (hm : ∀ ds w, m ds = some w → runB N.length bd ds = some w) : FnOk P w K mg base CX0 (k + 1) f fd ps (spD K m) := by
  refine F.ok S (fun vs H Q E h => ?_) (fun cdv A outer s H vs Q E hr h => ?_)
  · obtain ⟨ds, w, h1, h2, _⟩ := h
    rw [h1.len]; exact len ds w h2
  · obtain ⟨ds, w, h1, h2, q⟩ := h
    refine ⟨_, (hb cdv A outer s H hr : OkB _ _ _), ?_⟩
    have h3 := hm ds w h2
    unfold runB at h3
    obtain ⟨⟨fl, ρ'⟩, h4, h5⟩ := Option.bind_eq_some_iff.mp h3
    refine ⟨H, initE N.length ds, fl, ρ', SI.init h1, h4, ?_⟩
    cases fl with
    | rt w' => cases h5; exact fun v H' r => q v H' r
    | nx =>
      cases h5
      exact fun σ H' ⟨G, F1, F2, J⟩ => q _ H' ⟨G, [], J.ex0, J.ex, ⟨rfl, rfl⟩, List.nodup_nil, (fun a ha => by cases ha), J.tu⟩
    | bk => cases h5
    | ct => cases h5
end
end Pv
set_option Elab.async false
set_option linter.all false
set_option maxRecDepth 100000
/-! P10: enumerate and zip over lists and tuples in any mix -/
namespace Pv
open PySem PySem.Spec PyProof.Rows L2
/-- lists (true), tuples (false) -/
def Sq (K : PySem.W.Frag) (H : Hp) : Bool → Addr → List V → Prop
  | true, a, xs => SqL K H a xs
  | false, a, xs => SqT K H a xs
def IsI (h : Heap) : Bool → Addr → Addr → Nat → Prop
  | true, it, a, i => h.IsListIter it a i
  | false, it, a, i => h.IsTupleIter it a i
def IsQ (h : Heap) : Bool → Addr → Array Value → Prop
  | true, a, its => h.IsList a its
  | false, a, its => h.IsTuple a its
def iterO (b : Bool) (l : Addr) : Obj := { cls := .type (if b then "list_iterator" else "tuple_iterator"), data := .fields #[.ref l, .int 0 0] }
theorem IsI.obj {h : Heap} {b : Bool} {it a : Addr} {i : Nat} (e : IsI h b it a i) : ∃ o, h.get? it = some o ∧ ∀ v, o.data ≠ .cell v := by
  cases b
  · obtain ⟨o, ho, _, hd⟩ := e; exact ⟨o, ho, fun v q => by rw [hd] at q; cases q⟩
  · obtain ⟨o, ho, _, hd⟩ := e; exact ⟨o, ho, fun v q => by rw [hd] at q; cases q⟩
theorem IsI.at {h h' : Heap} {b : Bool} {it a : Addr} {i : Nat} (e : IsI h b it a i) (k : ∀ o, h.get? it = some o → h'.get? it = some o) : IsI h' b it a i := by
  cases b
  · exact Heap.IsTupleIter.at e k
  · exact Heap.IsListIter.at e k
theorem IsI.new {h : Heap} {b : Bool} {it a : Addr} (e : h.get? it = some (iterO b a)) : IsI h b it a 0 := by
  cases b
  · exact ⟨_, e, rfl, rfl⟩
  · exact ⟨_, e, rfl, rfl⟩
theorem IsQ.lt {h : Heap} {b : Bool} {a : Addr} {its : Array Value} (e : IsQ h b a its) : a < h.objs.size := by
  cases b
  · obtain ⟨o, ho, _⟩ := e; exact Heap.lt_size ho
  · obtain ⟨o, ho, _⟩ := e; exact Heap.lt_size ho
theorem draws {prog : Program} {w : World} {A : Around} (hh : A.handled = none) (b : Bool) (it l : Addr) (hne : l ≠ it) (its : Array Value) : Draws prog w A it [it, l] its.size (fun i v => its[i]? = some v) (fun i h => IsI h b it l i ∧ IsQ h b l its) := by
  cases b
  · exact Draws.tuple hh it l hne its
  · exact Draws.list hh it l hne its
theorem begins (b : Bool) (l : Addr) (its : Array Value) : Begins (.ref l) (iterO b l) fun h => IsQ h b l its := by
  cases b
  · exact begins_tuple l its
  · exact begins_list l its
section
variable {X : Cx} {pins : List (Addr × Obj)} {σ : L2.St} {H : Hp} {s : Shared} {a : Addr} {xs ys : List V}
theorem sq_at (I : Inv X pins σ H s) {b : Bool} (h : Sq X.K H b a xs) : ∃ its : List Value, Vals xs its ∧ IsQ s.heap b a its.toArray := by
  cases b
  · obtain ⟨its, r, p, _⟩ := I.tuple h; exact ⟨its, r, p⟩
  · obtain ⟨its, r, p, _⟩ := I.list h; exact ⟨its, r, p.isList⟩
theorem sq_inj (I : Inv X pins σ H s) {b : Bool} (h : Sq X.K H b a xs) (h' : Sq X.K H b a ys) : xs = ys := by
  cases b
  · exact I.tuple_inj h h'
  · exact I.list_inj h h'
end
/-! ### zip -/
def ItzG (K : PySem.W.Frag) (b c : Bool) (a d : Addr) : It :=
  ⟨fun i H => ∃ (xs ys : List V) (x y : V), Sq K H b a xs ∧ Sq K H c d ys ∧ xs[i]? = some x ∧ ys[i]? = some y,
    fun i H v H' => ∃ T x y, v = .ref T ∧ H T = none ∧ H' = upd H T (.tup [x, y]) ∧ (∀ xs, Sq K H b a xs → xs[i]? = some x) ∧ ∀ ys, Sq K H c d ys → ys[i]? = some y,
    fun i H => ∃ xs ys : List V, Sq K H b a xs ∧ Sq K H c d ys ∧ (xs.length = i ∧ i ≤ ys.length ∨ ys.length = i ∧ i ≤ xs.length)⟩
set_option maxHeartbeats 1000000 in
theorem turn_zipG {P : Program} {w : World} {K : PySem.W.Frag} {elts : List Expr} {kk : Nat} {tpos : Pos} {b c : Bool} {a d z TI TO i1 i2 : Addr} (D : ZipSep2 z TI TO i1 i2 [i1, a] [i2, d]) (h12 : i1 ≠ i2) (ha : a ≠ i1) (hd : d ≠ i2) :
    Turn P w K (.Tuple elts kk tpos) (ItzG K b c a d) [z, TI, TO, i1, i2] z (fun i h => IsZip h z TI TO .none ∧ IsTupOf2 h TI (.ref i1) (.ref i2) ∧ (∃ x y, IsTupOf2 h TO x y) ∧ IsI h b i1 a i ∧ IsI h c i2 d i) where
  mem := by simp
  obj := fun i h st e hc => by
    obtain ⟨hz, hTI, ⟨x, y, hTO⟩, h1, h2⟩ := st
    have e' : e = z ∨ e = TI ∨ e = TO ∨ e = i1 ∨ e = i2 := by simpa using hc
    rcases e' with q | q | q | q | q
    · rw [q]; exact ⟨_, hz, fun v q => nomatch q⟩
    · rw [q]; exact ⟨_, hTI, fun v q => nomatch q⟩
    · rw [q]; exact ⟨_, hTO, fun v q => nomatch q⟩
    · rw [q]; exact h1.obj
    · rw [q]; exact h2.obj
  keep := fun i h h' st k => by
    obtain ⟨hz, hTI, ⟨x, y, hTO⟩, h1, h2⟩ := st
    exact ⟨k z (by simp) _ hz, k TI (by simp) _ hTI, ⟨x, y, k TO (by simp) _ hTO⟩, h1.at fun o q => k i1 (by simp) o q, h2.at fun o q => k i2 (by simp) o q⟩
  item := by
    intro X hP hw hK hc i pins s σ H E I hf st hg
    subst hP hw hK
    obtain ⟨hz, hTI, ⟨x0, y0, hTO⟩, h1, h2⟩ := st
    obtain ⟨xs, ys, x, y, hqx, hqy, hx, hy⟩ := hg
    obtain ⟨its, rv, p⟩ := sq_at I hqx
    obtain ⟨its2, rv2, p2⟩ := sq_at I hqy
    obtain ⟨u, hu, ru⟩ := rv.get hx
    obtain ⟨u2, hu2, ru2⟩ := rv2.get hy
    have hzl : z < s.heap.objs.size := Heap.lt_size hz
    have hh : X.A.in1.handled = none := I.ok.hd hc
    refine wpAny_pyNext_zipD2_item D (draws hh b i1 a ha its.toArray) (draws hh c i2 d hd its2.toArray) hz hTI hTO ⟨h1, p⟩ ⟨h2, p2⟩
      (by have := (List.getElem?_eq_some_iff.mp hu).1; simpa using this) (by have := (List.getElem?_eq_some_iff.mp hu2).1; simpa using this) fun v1 v2 h' tk e1 e2 z' TO' st1' st2' hT hsz hk => ?_
    have e1 : v1 = u := by
      have e1' : its.toArray[i]? = some v1 := e1
      have : its[i]? = some v1 := by simpa using e1'
      rw [hu] at this; exact (Option.some.inj this).symm
    have e2 : v2 = u2 := by
      have e2' : its2.toArray[i]? = some v2 := e2
      have : its2[i]? = some v2 := by simpa using e2'
      rw [hu2] at this; exact (Option.some.inj this).symm
    subst e1 e2
    refine ⟨_, rfl, wpAny_letOwnedTupleGo_zip (s := { s with heap := h', toks := tk }) z' fun h'' z'' sb => ?_⟩
    have hT2 : h''.get? s.heap.objs.size = some { cls := .type "tuple", data := .seq #[v1, v2] } := (sb.2 _ (Nat.ne_of_gt hzl)).trans hT
    have new : ObjOk X.prog X.w (upd H s.heap.objs.size (.tup [x, y])) h'' s.heap.objs.size (.tup [x, y]) :=
      ⟨by show 2 ≤ sizeLine; decide, [v1, v2], .cons ru (.cons ru2 .nil), ⟨_, hT2, rfl, _, rfl⟩⟩
    have I1 : Inv X pins σ (upd H s.heap.objs.size (.tup [x, y])) { s with heap := h'', toks := tk } :=
      Inv.turnedNew (t' := tk) (ch := [z, TI, TO, i1, i2]) I (fun c o hb q => (sb.2 c (fun q' => hb (by simp [q']))).trans (hk c o (fun q' => hb (by simp [q'])) (fun q' => hb (by simp [q'])) (fun q' => hb (by simp [q'])) (fun q' => hb (by simp [q'])) q)) hf (Nat.le_refl _) new
    refine ⟨.ref s.heap.objs.size, _, I1, rfl, ⟨_, x, y, rfl, I.hok.fresh (Nat.le_refl _), rfl, fun l hl => by rw [sq_inj I hl hqx]; exact hx, fun l hl => by rw [sq_inj I hl hqy]; exact hy⟩, ⟨z'', ?_, ⟨v1, v2, ?_⟩, ?_, ?_⟩, fun c hcm => ?_⟩
    · exact (sb.2 _ D.TIz).trans (hk _ _ D.TIz D.TITO D.TIi1 D.TIi2 hTI)
    · exact (sb.2 _ D.TOz).trans TO'
    · exact st1'.1.at fun o q => (sb.2 _ D.zi1.symm).trans q
    · exact st2'.1.at fun o q => (sb.2 _ D.zi2.symm).trans q
    · have hlt : c < s.heap.objs.size := by
        have e' : c = z ∨ c = TI ∨ c = TO ∨ c = i1 ∨ c = i2 := by simpa using hcm
        rcases e' with q | q | q | q | q
        · rw [q]; exact hzl
        · rw [q]; exact Heap.lt_size hTI
        · rw [q]; exact Heap.lt_size hTO
        · rw [q]; obtain ⟨_, e1, _⟩ := h1.obj; exact Heap.lt_size e1
        · rw [q]; obtain ⟨_, e2, _⟩ := h2.obj; exact Heap.lt_size e2
      rw [upd_ne (Nat.ne_of_lt hlt)]
      exact (hf c hcm).1
  done := by
    intro X hP hw hK hc i pins s σ H E I hf st hg
    subst hP hw hK
    obtain ⟨hz, hTI, ⟨x0, y0, hTO⟩, h1, h2⟩ := st
    obtain ⟨xs, ys, hqx, hqy, hend⟩ := hg
    obtain ⟨its, rv, p⟩ := sq_at I hqx
    obtain ⟨its2, rv2, p2⟩ := sq_at I hqy
    have l1 := rv.length
    have l2 := rv2.length
    have hh : X.A.in1.handled = none := I.ok.hd hc
    exact wpAny_pyNext_zipD2_end D (draws hh b i1 a ha its.toArray) (draws hh c i2 d hd its2.toArray) hz hTI hTO ⟨h1, p⟩ ⟨h2, p2⟩ (by simp; omega) (by simp; omega) (by simp; omega) fun h' tk hk => ⟨rfl, Inv.turnedL (t' := tk) (ch := [z, TI, TO, i1, i2]) I (fun c o hb q =>
      hk c o (fun q' => hb (by simp [q'])) (fun q' => hb (by simp [q'])) (fun q' => hb (by simp [q'])) (fun q' => hb (by simp [q'])) q) hf⟩
  self := fun A i s Q E st h => wpAny_pyIter_zip st.1 h
def iZipG (K : PySem.W.Frag) (ta : TA) : L2.TI := fun σ H R => ta σ H fun vs H1 => ∃ b c a d xs ys, vs = [.ref a, .ref d] ∧ Sq K H1 b a xs ∧ Sq K H1 c d ys ∧ R (ItzG K b c a d) H1
theorem pi_zipG {X : Cx} {e e2 : Expr} {ta : TA} {p pos tpos : Pos} {elts : List Expr} {kk : Nat} (hg : Gl X "zip") (hm : X.mg "zip" = none) (ha : PA X [e, e2] ta)
    (hs : starEach [e, e2] X.env = (false, eval e X.env) :: starEach [e2] X.env := by rfl) (hpl : (backTo pos (starEach [e2] X.env)).any (·.1) = false := by rfl) :
    PI X (.Tuple elts kk tpos) (.Call (.Name "zip" p) [e, e2] [] pos) (iZipG X.K ta) := by
  refine ⟨fun pins s σ H R I h => ?_⟩
  refine Call_ (ld_blt I hg hm PyProof.Rows.boot_zip (PyProof.Rows.callWith_type1 (thn (ha.run pos pins s σ H _ I h) fun us s1 ⟨vs, H1, I1, r1, q1⟩ => ?_) hs hpl))
  obtain ⟨b, c, a, d, xs, ys, ex, hqx, hqy, q⟩ := q1
  subst ex
  cases r1 with
  | cons r rr =>
    cases rr with
    | cons r' rr =>
      cases rr
      cases r
      cases r'
      obtain ⟨its, rv, p1⟩ := sq_at I1 hqx
      obtain ⟨its2, rv2, p2⟩ := sq_at I1 hqy
      refine zip_begins2 (begins b a its.toArray) (begins c d its2.toArray) p1 p2 fun h' hz hTI hTO h1 h2 hsz hk => wpAny_pyIter_zip hz ?_
      have I2 : Inv X pins σ H1 { s1 with heap := h' } := I1.kept (t' := s1.toks) hk
      have la := p1.lt
      have ld := p2.lt
      refine ⟨s1.heap.objs.size + 4, [s1.heap.objs.size + 4, s1.heap.objs.size + 2, s1.heap.objs.size + 3, s1.heap.objs.size, s1.heap.objs.size + 1], _, _, H1, rfl, I2,
        turn_zipG (zip_sep2 (fun b hb => by rw [List.mem_singleton.mp hb]; exact la) (fun b hb => by rw [List.mem_singleton.mp hb]; exact ld)) (Nat.ne_of_lt (Nat.lt_succ_self _)) (Nat.ne_of_lt la) (Nat.ne_of_lt (Nat.lt_succ_of_lt ld)),
        ⟨hz, hTI, ⟨_, _, hTO⟩, IsI.new h1, IsI.new h2⟩, fun c hcm => ?_, q⟩
      have e' : c = s1.heap.objs.size + 4 ∨ c = s1.heap.objs.size + 2 ∨ c = s1.heap.objs.size + 3 ∨ c = s1.heap.objs.size ∨ c = s1.heap.objs.size + 1 := by simpa using hcm
      have hle : s1.heap.objs.size ≤ c := by
        rcases e' with z | z | z | z | z
        · rw [z]; exact Nat.le_add_right _ _
        · rw [z]; exact Nat.le_add_right _ _
        · rw [z]; exact Nat.le_add_right _ _
        · rw [z]; exact Nat.le_refl _
        · rw [z]; exact Nat.le_add_right _ _
      exact I1.fpOk hle (I1.hok.fresh hle)
/-! ### enumerate -/
def IteG (K : PySem.W.Frag) (b : Bool) (a : Addr) : It :=
  ⟨fun i H => ∃ (xs : List V) (x : V), Sq K H b a xs ∧ xs[i]? = some x, fun i H v H' => ∃ T x, v = .ref T ∧ H T = none ∧ H' = upd H T (.tup [.int (i : Nat), x]) ∧ ∀ xs, Sq K H b a xs → xs[i]? = some x, fun i H => ∃ xs : List V, Sq K H b a xs ∧ xs.length = i⟩
set_option maxHeartbeats 1000000 in
theorem turn_enumG {P : Program} {w : World} {K : PySem.W.Frag} {elts : List Expr} {kk : Nat} {tpos : Pos} (b : Bool) (a e it : Addr) (hei : e ≠ it) (hea : e ≠ a) (hai : a ≠ it) :
    Turn P w K (.Tuple elts kk tpos) (IteG K b a) [e, it] e (fun i h => (∃ old, IsEnum h e it ((i : Nat) : Int) old) ∧ IsI h b it a i) where
  mem := by simp
  obj := fun i h st c hb => by
    obtain ⟨⟨old, he⟩, hi⟩ := st
    have e' : c = e ∨ c = it := by simpa using hb
    rcases e' with z | z
    · rw [z]; exact ⟨_, he, fun v q => nomatch q⟩
    · rw [z]; exact hi.obj
  keep := fun i h h' st k => let ⟨⟨old, he⟩, hi⟩ := st; ⟨⟨old, k e (by simp) _ he⟩, hi.at fun o q => k it (by simp) o q⟩
  item := by
    intro X hP hw hK hc i pins s σ H E I hf st hg
    subst hP hw hK
    obtain ⟨⟨old, he⟩, hit⟩ := st
    obtain ⟨xs, x, hq, hx⟩ := hg
    obtain ⟨its, rv, p⟩ := sq_at I hq
    obtain ⟨u, hu, ru⟩ := rv.get hx
    have hel : e < s.heap.objs.size := Heap.lt_size he
    have hil : it < s.heap.objs.size := by obtain ⟨_, q, _⟩ := hit.obj; exact Heap.lt_size q
    have hh : X.A.in1.handled = none := I.ok.hd hc
    refine wpAny_pyNext_enum_itemC (draws hh b it a hai its.toArray) he ⟨hit, p⟩ (by have := (List.getElem?_eq_some_iff.mp hu).1; simpa using this) hei (by simp [hei, hea]) fun v h' tk e1 ho st' hT hsz hk => ?_
    have e1 : v = u := by
      have e1' : its.toArray[i]? = some v := e1
      have : its[i]? = some v := by simpa using e1'
      rw [hu] at this; exact (Option.some.inj this).symm
    subst e1
    refine ⟨_, rfl, wpAny_letOwnedTupleGo_enum (s := { s with heap := h', toks := tk + 1 }) ho fun h'' he' sb => ?_⟩
    have hT2 : h''.get? s.heap.objs.size = some { cls := .type "tuple", data := .seq #[.int i tk, v] } := (sb.2 _ (Nat.ne_of_gt hel)).trans hT
    have new : ObjOk X.prog X.w (upd H s.heap.objs.size (.tup [.int (i : Nat), x])) h'' s.heap.objs.size (.tup [.int (i : Nat), x]) :=
      ⟨by show 2 ≤ sizeLine; decide, [.int i tk, v], .cons ⟨_, rfl⟩ (.cons ru .nil), ⟨_, hT2, rfl, _, rfl⟩⟩
    have I1 : Inv X pins σ (upd H s.heap.objs.size (.tup [.int (i : Nat), x])) { s with heap := h'', toks := tk + 1 } :=
      Inv.turnedNew (t' := tk + 1) (ch := [e, it]) I (fun b ob hb q => (sb.2 b (fun z => hb (by simp [z]))).trans (hk b ob (fun z => hb (by simp [z])) (fun z => hb (by simp [z])) q)) hf (Nat.le_refl _) new
    refine ⟨.ref s.heap.objs.size, _, I1, rfl, ⟨_, x, rfl, I.hok.fresh (Nat.le_refl _), rfl, fun ys hy => by rw [sq_inj I hy hq]; exact hx⟩, ⟨⟨v, ?_⟩, st'.1.at fun o q => (sb.2 it (Ne.symm hei)).trans q⟩, fun b hb => ?_⟩
    · have e1 : ((i + 1 : Nat) : Int) = (i : Int) + 1 := by omega
      rw [e1]; exact he'
    · have hb' : b < s.heap.objs.size := by
        have e' : b = e ∨ b = it := by simpa using hb
        rcases e' with z | z
        · rw [z]; exact hel
        · rw [z]; exact hil
      rw [upd_ne (Nat.ne_of_lt hb')]
      exact (hf b hb).1
  done := by
    intro X hP hw hK hc i pins s σ H E I hf st hg
    subst hP hw hK
    obtain ⟨⟨old, he⟩, hit⟩ := st
    obtain ⟨xs, hq, hx⟩ := hg
    obtain ⟨its, rv, p⟩ := sq_at I hq
    obtain ⟨f0, f1, f2, f3, f4, f5⟩ := hf it (by simp)
    have hl := rv.length
    have hh : X.A.in1.handled = none := I.ok.hd hc
    have ei : its.toArray.size = i := by simp; omega
    exact wpAny_pyNext_enum_endD (draws hh b it a hai its.toArray) he (by rw [ei]; exact ⟨hit, p⟩) fun h' eb => ⟨rfl, I.turned (t' := s.toks) (fun b o hb q => eb b o hb q) f0 f1 f3 f4 f5⟩
  self := fun A i s Q E st h => let ⟨⟨_, he⟩, _⟩ := st; wpAny_pyIter_enum he h
set_option maxHeartbeats 1000000 in
theorem meets_enum1 {v : Value} {o : Obj} {H : Heap → Prop} (B : Begins v o H) :
    Meets (Builtin.«enumerate.__new__» ⟨[.type "enumerate", v], []⟩) (fun _ R s => H s.heap ∧
      R (.ok (.ret (.ref (s.heap.push o).objs.size))) { s with heap := (s.heap.push o).push { cls := .type "enumerate", data := .fields #[.none, .bool false, .ref s.heap.objs.size, rawInt 0, .none, .none] } }) :=
  .of_wp fun prog w A R s h => by
    obtain ⟨hp, g, d, tk, os⟩ := s; obtain ⟨h1, h⟩ := h
    have hsub := sub_enumerate
    have q1 : ∀ {A' : Around} {E : Value → Shared → Prop} {Q : Value → Shared → Prop}, Q (.ref hp.objs.size) ⟨hp.push o, g, d, tk, os⟩ → wpAny (model prog w) A' (pyIter v) Q E ⟨hp, g, d, tk, os⟩ :=
      fun q => B.iter prog w _ _ ⟨hp, g, d, tk, os⟩ _ h1 q
    wp_walk using q1
    refine wpAny_stack_any fun st => wpAny_pure ?_
    split
    · rename_i c _ _ _ _ _
      cases (c == Value.type "enumerate")
      · wp_walk using q1
        exact ⟨_, rfl, h⟩
      · wp_walk using q1
        exact ⟨_, rfl, h⟩
    · wp_walk using q1
      exact ⟨_, rfl, h⟩
theorem enum1_begins {prog : Program} {w : World} {A : Around} {E : Value → Shared → Prop} {s : Shared} {v : Value} {o : Obj} {H : Heap → Prop} {Q : Value → Shared → Prop} (B : Begins v o H) (h1 : H s.heap)
    (h : ∀ h', IsEnum h' (s.heap.objs.size + 1) s.heap.objs.size 0 .none → h'.get? s.heap.objs.size = some o → h'.objs.size = s.heap.objs.size + 2 →
      (∀ b o, s.heap.get? b = some o → h'.get? b = some o) → Q (.ref (s.heap.objs.size + 1)) { s with heap := h' }) :
    wpAny (model prog w) A (call (.type "enumerate") [v]) Q E s := by
  refine callType_new F.called_enumerate (by decide) (F.typeCall_enumerate_1 _) (F.newCall_enumerate_1 _) (fun obj => F.args_object_init_2 obj _) F.entry_enumerate_new
    (meets_enum1 B) ⟨h1, ?_⟩
  have hz : (s.heap.push o).objs.size = s.heap.objs.size + 1 := Heap.size_push ..
  show _ ∧ _
  rw [hz]
  have he : IsEnum ((s.heap.push o).push { cls := .type "enumerate", data := .fields #[.none, .bool false, .ref s.heap.objs.size, rawInt 0, .none, .none] }) (s.heap.objs.size + 1) s.heap.objs.size 0 .none := by
    have := Heap.get?_push_size (s.heap.push o) (o := { cls := .type "enumerate", data := .fields #[.none, .bool false, .ref s.heap.objs.size, rawInt 0, .none, .none] }) rfl
    rw [hz] at this; exact this
  refine ⟨⟨_, he, rfl⟩, h _ he (Heap.get?_push_of_some _ (Heap.get?_push_size _ B.free)) (by rw [Heap.size_push, hz]) fun b o x => Heap.get?_push_of_some _ (Heap.get?_push_of_some _ x)⟩
def iEnumG (K : PySem.W.Frag) (ta : TA) : L2.TI := fun σ H R => ta σ H fun vs H1 => ∃ b a xs, vs = [.ref a] ∧ Sq K H1 b a xs ∧ R (IteG K b a) H1
theorem pi_enumG {X : Cx} {e : Expr} {ta : TA} {p pos tpos : Pos} {elts : List Expr} {kk : Nat} (hg : Gl X "enumerate") (hm : X.mg "enumerate" = none) (ha : PA X [e] ta) (hs : starEach [e] X.env = [(false, eval e X.env)] := by rfl) :
    PI X (.Tuple elts kk tpos) (.Call (.Name "enumerate" p) [e] [] pos) (iEnumG X.K ta) := by
  refine ⟨fun pins s σ H R I h => ?_⟩
  refine Call_ (ld_blt I hg hm boot_enumerate (PyProof.Rows.callWith_type1 (thn (ha.run pos pins s σ H _ I h) fun us s1 ⟨vs, H1, I1, r1, q1⟩ => ?_) hs rfl))
  obtain ⟨b, a, xs, ex, hq, q⟩ := q1
  subst ex
  cases r1 with
  | cons r rr =>
    cases rr
    cases r
    obtain ⟨its, rv, p'⟩ := sq_at I1 hq
    refine enum1_begins (begins b a its.toArray) p' fun h' he hit hsz hk => wpAny_pyIter_enum he ?_
    have I2 : Inv X pins σ H1 { s1 with heap := h' } := I1.kept (t' := s1.toks) hk
    have la := p'.lt
    refine ⟨s1.heap.objs.size + 1, [s1.heap.objs.size + 1, s1.heap.objs.size], _, _, H1, rfl, I2, turn_enumG b a (s1.heap.objs.size + 1) s1.heap.objs.size (Nat.succ_ne_self _) (Nat.ne_of_gt (Nat.lt_succ_of_lt la)) (Nat.ne_of_lt la), ⟨⟨.none, he⟩, IsI.new hit⟩, fun b hb => ?_, q⟩
    have e' : b = s1.heap.objs.size + 1 ∨ b = s1.heap.objs.size := by simpa using hb
    have hle : s1.heap.objs.size ≤ b := by
      rcases e' with z | z
      · rw [z]; exact Nat.le_add_right _ _
      · rw [z]; exact Nat.le_refl _
    exact I1.fpOk hle (I1.hok.fresh hle)
end Pv
set_option Elab.async false
set_option linter.all false
set_option maxRecDepth 100000
/-! P11: enumerate, zip over data; dicts -/
namespace Pv
open PySem PySem.Spec PyProof.Rows L2
section
variable {X : Cx} {K : PySem.W.Frag} {G0 G G1 G' H H' : Hp} {σ : L2.St} {ρ : Env} {ws : List (V × Arg)} {F F1 F2 : List Addr} {e a b c tg : Expr} {es : List Expr} {pos : Pos} {A B C : Fe}
/-! ### enumerate, zip -/
def seqD : D → Option (Bool × List D)
  | .lst ds => some (true, ds)
  | .tup ds => some (false, ds)
  | .ktp ds => some (false, ds)
  | _ => none
theorem seqD_rep {d : D} {v : V} {b : Bool} {ds : List D} (h : seqD d = some (b, ds)) (r : RepF K G d v) : ∃ a xs, v = .ref a ∧ Sq K G b a xs ∧ RepFs K G ds xs := by
  cases d <;> first | (cases h; done) | skip
  · cases h; obtain ⟨a, xs, h1, h2, h3⟩ := r; exact ⟨a, xs, h1, SqT.of h2, h3⟩
  · cases h; obtain ⟨a, xs, h1, h2, h3⟩ := r; exact ⟨a, xs, h1, SqL.of h2, h3⟩
  · cases h; obtain ⟨a, xs, h1, h2, h3⟩ := r; exact ⟨a, xs, h1, h2.sq, h3⟩
theorem same_q (e : Same G G') {b : Bool} {a : Addr} {xs : List V} (h : Sq K G b a xs) : Sq K G' b a xs := by
  cases b
  · exact same_t e h
  · exact same_l e h
def enumF : Nat → List D → List D
  | _, [] => []
  | i, d :: ds => .tup [.int (i : Nat), d] :: enumF (i + 1) ds
def zipF : List D → List D → List D
  | d :: ds, c :: cs => .tup [d, c] :: zipF ds cs
  | _, _ => []
theorem enumF_len : ∀ (i : Nat) (ds : List D), (enumF i ds).length = ds.length
  | _, [] => rfl
  | i, d :: ds => by rw [enumF, List.length_cons, List.length_cons, enumF_len]
theorem enumF_get : ∀ (i j : Nat) (ds : List D) (d : D), ds[j]? = some d → (enumF i ds)[j]? = some (.tup [.int ((i + j : Nat) : Int), d])
  | i, 0, d' :: ds, d, h => by simp at h; subst h; rfl
  | i, j + 1, d' :: ds, d, h => by
    have := enumF_get (i + 1) j ds d (by simpa using h)
    rw [enumF, List.getElem?_cons_succ, this]
    congr 4
    omega
  | i, j, [], d, h => by simp at h
theorem zipF_len : ∀ (ds cs : List D), (zipF ds cs).length = min ds.length cs.length
  | [], cs => by simp [zipF]
  | d :: ds, [] => by simp [zipF]
  | d :: ds, c :: cs => by simp [zipF, zipF_len ds cs]
theorem zipF_get : ∀ (j : Nat) (ds cs : List D) (d c : D), ds[j]? = some d → cs[j]? = some c → (zipF ds cs)[j]? = some (.tup [d, c])
  | 0, d' :: ds, c' :: cs, d, c, h, q => by simp at h q; subst h q; rfl
  | j + 1, d' :: ds, c' :: cs, d, c, h, q => by
    rw [zipF, List.getElem?_cons_succ]
    exact zipF_get j ds cs d c (by simpa using h) (by simpa using q)
  | j, [], cs, d, c, h, q => by simp at h
  | j, d' :: ds, [], d, c, h, q => by simp at q
theorem Grow.rep_tup {p : Addr} {ds : List D} {xs : List V} (e : Same G H) (hp : H p = none) (r : RepFs K G ds xs) : RepF K (upd G p (.tup xs)) (.tup ds) (.ref p) := by
  have g := Grow.newF (o := .tup xs) e hp
  exact ⟨p, xs, rfl, upd_same, RepFs.mono g.gg _ _ r⟩
theorem Items.enumF {a : Addr} {ds : List D} {xs : List V} {G1 : Hp} {bb : Bool} (h : Sq K G1 bb a xs) (r : RepFs K G1 ds xs) : Items K (IteG K bb a) (enumF 0 ds) (fun G H => Same G1 G ∧ Same G H) where
  goes := fun i G H hi ⟨e1, e2⟩ => by
    rw [enumF_len] at hi
    exact ⟨xs, xs[i]'(by rw [r.len]; exact hi), same_q e2 (same_q e1 h), by simp [r.len, hi]⟩
  stops := fun G H ⟨e1, e2⟩ => ⟨xs, same_q e2 (same_q e1 h), by rw [r.len, enumF_len]⟩
  yields := fun i G H x H' hi ⟨e1, e2⟩ ⟨T, y, hv, hT, hH, hx⟩ => by
    rw [enumF_len] at hi
    subst hv hH
    have hd := List.getElem?_eq_getElem hi
    obtain ⟨z, h1, h2⟩ := (RepFs.mono e1 _ _ r).get hd
    have := hx xs (same_q e2 (same_q e1 h))
    rw [h1] at this
    cases this
    refine ⟨_, .tup [.int ((0 + i : Nat) : Int), ds[i]], Grow.newF (o := .tup _) e2 hT, enumF_get 0 i ds _ hd, ?_⟩
    refine Grow.rep_tup e2 hT ⟨_, _, rfl, ?_, _, [], rfl, h2, rfl⟩
    show V.int _ = V.int _
    simp
theorem Items.zipF {a d : Addr} {ds cs : List D} {xs ys : List V} {G1 : Hp} {b1 b2 : Bool} (h : Sq K G1 b1 a xs) (r : RepFs K G1 ds xs) (h' : Sq K G1 b2 d ys) (r' : RepFs K G1 cs ys) : Items K (ItzG K b1 b2 a d) (zipF ds cs) (fun G H => Same G1 G ∧ Same G H) where
  goes := fun i G H hi ⟨e1, e2⟩ => by
    rw [zipF_len] at hi
    exact ⟨xs, ys, xs[i]'(by rw [r.len]; omega), ys[i]'(by rw [r'.len]; omega), same_q e2 (same_q e1 h), same_q e2 (same_q e1 h'), List.getElem?_eq_getElem _, List.getElem?_eq_getElem _⟩
  stops := fun G H ⟨e1, e2⟩ => ⟨xs, ys, same_q e2 (same_q e1 h), same_q e2 (same_q e1 h'), by rw [r.len, r'.len, zipF_len]; omega⟩
  yields := fun i G H x H' hi ⟨e1, e2⟩ ⟨T, y, z, hv, hT, hH, hx, hy⟩ => by
    rw [zipF_len] at hi
    subst hv hH
    have hi1 : i < ds.length := by omega
    have hi2 : i < cs.length := by omega
    have hd := List.getElem?_eq_getElem hi1
    have hc := List.getElem?_eq_getElem hi2
    obtain ⟨z1, h1, h2⟩ := (RepFs.mono e1 _ _ r).get hd
    obtain ⟨z2, h3, h4⟩ := (RepFs.mono e1 _ _ r').get hc
    have t1 := hx xs (same_q e2 (same_q e1 h))
    have t2 := hy ys (same_q e2 (same_q e1 h'))
    rw [h1] at t1; rw [h3] at t2
    cases t1; cases t2
    exact ⟨_, .tup [ds[i], cs[i]], Grow.newF (o := .tup _) e2 hT, zipF_get i ds cs _ _ hd hc, Grow.rep_tup e2 hT ⟨_, _, rfl, h2, _, [], rfl, h4, rfl⟩⟩
/-- the arguments of a call, all frozen -/
theorem args_frozen {f : Fa} {G0 : Hp} {ρ : Env} {as : List Arg} {ds : List D} {Q : List V → Hp → Prop} (I : SI K G0 σ ρ ws H) (hf : f ρ = some as) (ho : ownAll as = some ds)
    (q : ∀ vs H1 G F1 F2, Si K G0 σ ρ ws H1 G F1 F2 → RepFs K G ds vs → Q vs H1) : tA K f σ H Q :=
  ⟨G0, ρ, ws, as, I, hf, fun vs H1 hl I1 => by
    obtain ⟨G, F1, F2, J⟩ := I1
    obtain ⟨F3, J⟩ := Si.perm ((List.reverse_perm _).append_right ws) J
    obtain ⟨G1, F4, J1, e1, r1⟩ := Si.freezeN as vs ds hl ho J
    exact q vs H1 G1 F1 F4 J1 r1⟩
def iEnum (A : Fe) : Fit := fun ρ => (aCons A aNil ρ).bind fun as => (ownAll as).bind fun ds => match ds with
  | [d] => (seqD d).map fun p => enumF 0 p.2
  | _ => none
def iZip (A B : Fe) : Fit := fun ρ => (aCons A (aCons B aNil) ρ).bind fun as => (ownAll as).bind fun ds => match ds with
  | [d, c] => (seqD d).bind fun p => (seqD c).map fun q => zipF p.2 q.2
  | _ => none
theorem i_enum {p tpos : Pos} {elts : List Expr} {kk : Nat} (hg : Gl X "enumerate") (hm : X.mg "enumerate" = none) (ha : OkE X a A) (hs : starEach [a] X.env = [(false, eval a X.env)] := by rfl) : OkI X (.Tuple elts kk tpos) (.Call (.Name "enumerate" p) [a] [] pos) (iEnum A) :=
  PI.imp (pi_enumG (ta := tA X.K (aCons A aNil)) hg hm (a_cons ha a_nil hs) hs) fun σ H R ⟨G0, ρ, ds, I, hf, q⟩ => by
  obtain ⟨as, has, hf⟩ := Option.bind_eq_some_iff.mp hf
  obtain ⟨cs, hcs, hf⟩ := Option.bind_eq_some_iff.mp hf
  split at hf
  · obtain ⟨⟨bb, es⟩, hq, rfl⟩ := Option.map_eq_some_iff.mp hf
    refine args_frozen I has hcs fun vs H1 G F1 F2 J r => ?_
    obtain ⟨v, vs, rfl, r1, rfl⟩ := r
    obtain ⟨x, xs, rfl, h2, h3⟩ := seqD_rep hq r1
    exact ⟨bb, x, xs, rfl, same_q J.ex h2, q _ H1 G J.ex0 J.up (Items.enumF h2 h3)⟩
  · cases hf
theorem i_zip {p tpos : Pos} {elts : List Expr} {kk : Nat} (hg : Gl X "zip") (hm : X.mg "zip" = none) (ha : OkE X a A) (hb : OkE X b B) (hs : starEach [a, b] X.env = (false, eval a X.env) :: starEach [b] X.env := by rfl) (hs2 : starEach [b] X.env = [(false, eval b X.env)] := by rfl)
    (hpl : (backTo pos (starEach [b] X.env)).any (·.1) = false := by rfl) : OkI X (.Tuple elts kk tpos) (.Call (.Name "zip" p) [a, b] [] pos) (iZip A B) :=
  PI.imp (pi_zipG (ta := tA X.K (aCons A (aCons B aNil))) hg hm (a_cons ha (a_cons hb a_nil hs2) hs) hs hpl) fun σ H R ⟨G0, ρ, ds, I, hf, q⟩ => by
  obtain ⟨as, has, hf⟩ := Option.bind_eq_some_iff.mp hf
  obtain ⟨cs, hcs, hf⟩ := Option.bind_eq_some_iff.mp hf
  split at hf
  · obtain ⟨⟨b1, es⟩, hq, hf⟩ := Option.bind_eq_some_iff.mp hf
    obtain ⟨⟨b2, fs⟩, hq2, rfl⟩ := Option.map_eq_some_iff.mp hf
    refine args_frozen I has hcs fun vs H1 G F1 F2 J r => ?_
    obtain ⟨v, vs, rfl, r1, v2, vs2, rfl, r2, rfl⟩ := r
    obtain ⟨x, xs, rfl, h2, h3⟩ := seqD_rep hq r1
    obtain ⟨y, ys, rfl, h4, h5⟩ := seqD_rep hq2 r2
    exact ⟨b1, b2, x, y, xs, ys, rfl, same_q J.ex h2, same_q J.ex h4, q _ H1 G J.ex0 J.up (Items.zipF h2 h3 h4 h5)⟩
  · cases hf
/-- the same for comprehensions -/
theorem c_enum {p tpos : Pos} {elts : List Expr} {kk : Nat} (hg : Gl X "enumerate") (hm : X.mg "enumerate" = none) (ha : OkE X a A) (hs : starEach [a] X.env = [(false, eval a X.env)] := by rfl) : OkIc X (.Tuple elts kk tpos) (.Call (.Name "enumerate" p) [a] [] pos) (iEnum A) :=
  PI.imp (pi_enumG (ta := tA X.K (aCons A aNil)) hg hm (a_cons ha a_nil hs) hs) fun σ H R ⟨G0, ρ, ws, ds, I, hf, q⟩ => by
  obtain ⟨as, has, hf⟩ := Option.bind_eq_some_iff.mp hf
  obtain ⟨cs, hcs, hf⟩ := Option.bind_eq_some_iff.mp hf
  split at hf
  · obtain ⟨⟨bb, es⟩, hq, rfl⟩ := Option.map_eq_some_iff.mp hf
    refine args_frozen I has hcs fun vs H1 G F1 F2 J r => ?_
    obtain ⟨v, vs, rfl, r1, rfl⟩ := r
    obtain ⟨x, xs, rfl, h2, h3⟩ := seqD_rep hq r1
    exact ⟨bb, x, xs, rfl, same_q J.ex h2, q _ H1 G J.ex0 J.up (Items.enumF h2 h3).toC⟩
  · cases hf
theorem c_zip {p tpos : Pos} {elts : List Expr} {kk : Nat} (hg : Gl X "zip") (hm : X.mg "zip" = none) (ha : OkE X a A) (hb : OkE X b B) (hs : starEach [a, b] X.env = (false, eval a X.env) :: starEach [b] X.env := by rfl) (hs2 : starEach [b] X.env = [(false, eval b X.env)] := by rfl)
    (hpl : (backTo pos (starEach [b] X.env)).any (·.1) = false := by rfl) : OkIc X (.Tuple elts kk tpos) (.Call (.Name "zip" p) [a, b] [] pos) (iZip A B) :=
  PI.imp (pi_zipG (ta := tA X.K (aCons A (aCons B aNil))) hg hm (a_cons ha (a_cons hb a_nil hs2) hs) hs hpl) fun σ H R ⟨G0, ρ, ws, ds, I, hf, q⟩ => by
  obtain ⟨as, has, hf⟩ := Option.bind_eq_some_iff.mp hf
  obtain ⟨cs, hcs, hf⟩ := Option.bind_eq_some_iff.mp hf
  split at hf
  · obtain ⟨⟨b1, es⟩, hq, hf⟩ := Option.bind_eq_some_iff.mp hf
    obtain ⟨⟨b2, fs⟩, hq2, rfl⟩ := Option.map_eq_some_iff.mp hf
    refine args_frozen I has hcs fun vs H1 G F1 F2 J r => ?_
    obtain ⟨v, vs, rfl, r1, v2, vs2, rfl, r2, rfl⟩ := r
    obtain ⟨x, xs, rfl, h2, h3⟩ := seqD_rep hq r1
    obtain ⟨y, ys, rfl, h4, h5⟩ := seqD_rep hq2 r2
    exact ⟨b1, b2, x, y, xs, ys, rfl, same_q J.ex h2, same_q J.ex h4, q _ H1 G J.ex0 J.up (Items.zipF h2 h3 h4 h5).toC⟩
  · cases hf
/-! ### dicts: reading -/
def keyK : D → Option Key
  | .int i => some (.inl i)
  | .str s => some (.inr s)
  | _ => none
def keysK : List D → Option (List Key)
  | [] => some []
  | d :: ds => (keyK d).bind fun k => (keysK ds).map fun ks => k :: ks
def keyD : Bool → D → Option (List Key)
  | false, d => (keyK d).map fun k => [k]
  | true, .tup ds => keysK ds
  | true, _ => none
theorem keyK_rep {k : Nat} {d : D} {v : V} {κ : Key} (h : keyK d = some κ) (r : RO K G H k d v F) : v = kV κ := by
  cases d <;> first | (cases h; done) | skip
  · cases h; exact r.int
  · cases h; exact r.str
theorem keysK_rep : ∀ {ds : List D} {xs : List V} {ks : List Key}, keysK ds = some ks → RepFs K G ds xs → xs = ks.map kV
  | [], _, _, h, r => by cases h; exact r
  | d :: ds, _, _, h, ⟨x, r, h1, h2, h3⟩ => by
    obtain ⟨k, hk, h⟩ := Option.bind_eq_some_iff.mp h
    obtain ⟨ks, hks, rfl⟩ := Option.map_eq_some_iff.mp h
    have e1 : x = kV k := keyK_rep (K := K) (G := G) (H := G) (k := 0) (F := []) hk ⟨h2, rfl⟩
    have e2 := keysK_rep hks h3
    subst h1 e1 e2
    rfl
def valD : List (List Key × D) → List Key → Option D
  | [], _ => none
  | p :: r, k => if p.1 = k then some p.2 else valD r k
theorem valD_some : ∀ {kvs : List (List Key × D)} {xs : List (List Key × V)} {k : List Key} {d : D}, RepFk K G kvs xs → valD kvs k = some d → ∃ x, valV xs k = some x ∧ RepF K G d x
  | [], _, _, _, _, h => by cases h
  | (k', d') :: r, _, k, d, ⟨x, xs, h1, h2, h3⟩, h => by
    subst h1
    unfold valD at h
    split at h
    · rename_i e
      cases h
      exact ⟨x, valV_pos e, h2⟩
    · rename_i e
      rw [valV_neg e]
      exact valD_some h3 h
theorem valD_none : ∀ {kvs : List (List Key × D)} {xs : List (List Key × V)} {k : List Key}, RepFk K G kvs xs → valD kvs k = none → valV xs k = none
  | [], _, _, h, _ => by rw [show _ = [] from h]; rfl
  | (k', d') :: r, _, k, ⟨x, xs, h1, h2, h3⟩, h => by
    subst h1
    unfold valD at h
    split at h
    · cases h
    · rename_i e
      rw [valV_neg e]
      exact valD_none h3 h
theorem valV_head (k : Key) : ∀ (xs : List (List Key × V)), (∀ p ∈ xs, ∃ k, p.1 = [k]) → valV (xs.map fun p => (p.1.headD (.inl 0), p.2)) k = valV xs [k]
  | [], _ => rfl
  | p :: xs, h => by
    obtain ⟨j, hj⟩ := h p List.mem_cons_self
    have ih := valV_head k xs fun q hq => h q (List.mem_cons_of_mem _ hq)
    by_cases e : j = k
    · rw [List.map_cons, valV_pos (p := (p.1.headD (.inl 0), p.2)) (by rw [hj]; exact e), valV_pos (p := p) (by rw [hj, e])]
    · rw [List.map_cons, valV_neg (p := (p.1.headD (.inl 0), p.2)) (by rw [hj]; exact e), valV_neg (p := p) (by rw [hj]; simpa using e), ih]
theorem dget_rep {t : Bool} {a : Addr} {xs : List (List Key × V)} {k : Nat} {d : D} {v : V} {ks : List Key} (e : Same G H) (h : Rd H a (hoD t xs)) (ok : keysOk t xs) (hk : keyD t d = some ks) (r : RO K G H k d v F) : DGet H a v (valV xs ks) := by
  cases t with
  | false =>
    obtain ⟨κ, hκ, rfl⟩ := Option.map_eq_some_iff.mp hk
    obtain rfl := keyK_rep hκ r
    exact .inl ⟨_, κ, h, rfl, (valV_head κ xs (ok rfl)).symm⟩
  | true =>
    cases d <;> first | (cases hk; done) | skip
    rename_i ds
    obtain ⟨b, ys, rfl, h1, h2⟩ := r.tupE
    exact .inr ⟨xs, ks, b, h, rfl, by rw [e _ _ h1, keysK_rep hk h2], rfl⟩
theorem ROk.to_F : ∀ {kvs : List (List Key × D)} {xs : List (List Key × V)} {F : List Addr}, ROk (RO K G H 0) kvs xs F → RepFk K G kvs xs ∧ F = []
  | [], _, _, h => h
  | (k, d) :: ds, _, _, ⟨x, r, F1, F2, h1, h2, h3, h4⟩ => by
    obtain ⟨q1, q2⟩ := ROk.to_F h4
    exact ⟨⟨x, r, h1, h3.1, q1⟩, by rw [h2, h3.2, q2]; rfl⟩
theorem ROk.of_F : ∀ {kvs : List (List Key × D)} {xs : List (List Key × V)}, RepFk K G kvs xs → ROk (RO K G H 0) kvs xs []
  | [], _, h => ⟨h, rfl⟩
  | (k, d) :: ds, _, ⟨x, r, h1, h2, h3⟩ => ⟨x, r, [], [], h1, rfl, ⟨h2, rfl⟩, ROk.of_F h3⟩
/-- a dict whose values are frozen -/
theorem RO.dct1 {k : Nat} {t : Bool} {kvs : List (List Key × D)} {v : V} (e : Same G H) (hk : k ≤ 1) (r : RO K G H k (.dct t kvs) v F) : ∃ a xs, v = .ref a ∧ Rd H a (hoD t xs) ∧ keysOk t xs ∧ RepFk K G kvs xs := by
  match k, hk, r with
  | 0, _, r => obtain ⟨⟨a, xs, h1, h2, h4, h3⟩, _⟩ := r; exact ⟨a, xs, h1, same_rd e h2, h4, h3⟩
  | 1, _, r => obtain ⟨a, xs, F', h1, h2, h5, h3, h4⟩ := r; exact ⟨a, xs, h1, .inl h2, h5, (ROk.to_F h4).1⟩
def gDGet : W → W → Option W
  | (k, .dct t kvs), (_, d) => if k ≤ 1 then (keyD t d).bind fun ks => (valD kvs ks).map fun c => (0, c) else none
  | _, _ => none
theorem g_dget : Op2 K (fun x y H Q => ∃ a v, x = .ref a ∧ DGet H a y (some v) ∧ Q v H) gDGet := by
  intro G H u v x y Fu Fv w e ru rv hw
  unfold gDGet at hw; split at hw
  · split at hw
    · rename_i hk
      obtain ⟨ks, hks, hw⟩ := Option.bind_eq_some_iff.mp hw
      obtain ⟨c, hc, rfl⟩ := Option.map_eq_some_iff.mp hw
      obtain ⟨a, xs, rfl, h1, h2, h3⟩ := ru.dct1 e hk
      obtain ⟨z, hz, rz⟩ := valD_some h3 hc
      have := dget_rep e h1 h2 hks rv
      rw [hz] at this
      exact Res.pure e rz fun Q q => ⟨a, z, rfl, this, q⟩
    · cases hw
  · cases hw
theorem e_dget (hu : X.A.units + 1 < cLine) (ha : OkE X a A) (hb : OkE X b B) (hs : NoSl b := by exact fun _ _ => rfl) : OkE X (.Subscript a b pos) (pOp2 gDGet A B) := PE.imp (pe_dget hu ha hb hs) (op2_imp g_dget)
def gDIn (neg : Bool) : W → W → Option W
  | (_, d), (k, .dct t kvs) => if k ≤ 1 then (keyD t d).map fun ks => (0, .bl (neg != (valD kvs ks).isSome)) else none
  | _, _ => none
theorem din_core {t : Bool} {k j : Nat} {kvs : List (List Key × D)} {d : D} {x y : V} {Fu Fv : List Addr} {ks : List Key} (e : Same G H) (hk : k ≤ 1) (hks : keyD t d = some ks) (ru : RO K G H j d x Fu) (rv : RO K G H k (.dct t kvs) y Fv) : ∃ a o, y = .ref a ∧ DGet H a x o ∧ o.isSome = (valD kvs ks).isSome := by
  obtain ⟨a, xs, rfl, h1, h2, h3⟩ := rv.dct1 e hk
  refine ⟨a, _, rfl, dget_rep e h1 h2 hks ru, ?_⟩
  cases hc : valD kvs ks with
  | none => rw [valD_none h3 hc]; rfl
  | some c =>
    obtain ⟨z, hz, _⟩ := valD_some h3 hc
    rw [hz]; rfl
theorem g_din : Op2 K (fun y x H Q => ∃ a o, x = .ref a ∧ DGet H a y o ∧ Q (.bl o.isSome) H) (gDIn false) := by
  intro G H u v x y Fu Fv w e ru rv hw
  unfold gDIn at hw; split at hw
  · split at hw
    · rename_i hk
      obtain ⟨ks, hks, rfl⟩ := Option.map_eq_some_iff.mp hw
      obtain ⟨a, o, rfl, h1, h2⟩ := din_core e hk hks ru rv
      exact Res.pure (v := .bl o.isSome) e (by show V.bl _ = V.bl _; rw [h2, Bool.false_bne]) fun Q q => ⟨a, o, rfl, h1, q⟩
    · cases hw
  · cases hw
theorem g_dnotin : Op2 K (fun y x H Q => ∃ a o, x = .ref a ∧ DGet H a y o ∧ Q (.bl (!o.isSome)) H) (gDIn true) := by
  intro G H u v x y Fu Fv w e ru rv hw
  unfold gDIn at hw; split at hw
  · split at hw
    · rename_i hk
      obtain ⟨ks, hks, rfl⟩ := Option.map_eq_some_iff.mp hw
      obtain ⟨a, o, rfl, h1, h2⟩ := din_core e hk hks ru rv
      exact Res.pure (v := .bl (!o.isSome)) e (by show V.bl _ = V.bl _; rw [h2, Bool.true_bne]) fun Q q => ⟨a, o, rfl, h1, q⟩
    · cases hw
  · cases hw
theorem e_din (hu : X.A.units + 1 < cLine) (ha : OkE X a A) (hb : OkE X b B) (hm : behindInMarks .In b = false := by rfl) : OkE X (.Compare a [.In] [b] pos) (pOp2 (gDIn false) A B) := PE.imp (pe_cmp (pc_din hu ha hb) hm) (op2_imp g_din)
theorem e_dnotin (hu : X.A.units + 1 < cLine) (ha : OkE X a A) (hb : OkE X b B) (hm : behindInMarks .NotIn b = false := by rfl) : OkE X (.Compare a [.NotIn] [b] pos) (pOp2 (gDIn true) A B) := PE.imp (pe_cmp (pc_dnotin hu ha hb) hm) (op2_imp g_dnotin)
/-- {} -/
def pDNew (k : Nat) (t : Bool) : Fe := fun _ => some (.v (k + 1) (.dct t []))
theorem e_dnewK {k : Nat} : OkE X (.Dict [] [] pos) (pDNew k false) := PE.imp pe_dnewK fun σ H Q ⟨G0, ρ, ws, a, ⟨G, F1, F2, J⟩, hf, q⟩ p hp => by
  cases hf
  have g := Grow.newO (o := .dK []) J.ex hp trivial
  exact q _ _ (J.push (k := k + 1) (d := .dct false []) g ⟨p, [], [], rfl, upd_same, (fun _ p h => by cases h), rfl, rfl, rfl⟩).SI
theorem e_dnewT {k : Nat} : OkE X (.Dict [] [] pos) (pDNew k true) := PE.imp pe_dnewT fun σ H Q ⟨G0, ρ, ws, a, ⟨G, F1, F2, J⟩, hf, q⟩ p hp => by
  cases hf
  have g := Grow.newO (o := .dT []) J.ex hp trivial
  exact q _ _ (J.push (k := k + 1) (d := .dct true []) g ⟨p, [], [], rfl, upd_same, (fun h => by cases h), rfl, rfl, rfl⟩).SI
/-- d.get(k, z), z frozen -/
def pGet2 (A B C : Fe) : Fe := fun ρ => (val A ρ).bind fun u => (val B ρ).bind fun v => (C ρ).bind fun c => match u, c with
  | (k, .dct t kvs), .v _ z => if k ≤ 1 then (keyD t v.2).map fun ks => .v 0 ((valD kvs ks).getD z) else none
  | _, _ => none
theorem e_dget2 {apos cpos : Pos} (hu : X.A.units + 1 < cLine) (ha : OkE X a A) (hb : OkE X b B) (hc : OkE X c C) (m : M2 X a "get" apos b c cpos := by exact ⟨rfl, rfl, rfl, rfl⟩) : OkE X (.Call (.Attribute a "get" apos) [b, c] [] cpos) (pGet2 A B C) :=
  PE.imp (pe_dget2 hu ha hb hc m) fun σ H Q ⟨G0, ρ, ws, x, I, hf, q⟩ => by
  obtain ⟨⟨k, du⟩, hu, hf1⟩ := Option.bind_eq_some_iff.mp hf
  obtain ⟨v, hv, hf2⟩ := Option.bind_eq_some_iff.mp hf1
  obtain ⟨c, hc, hf3⟩ := Option.bind_eq_some_iff.mp hf2
  clear hf hf1 hf2
  cases du <;> first | (cases hf3; done) | skip
  rename_i t kvs
  cases c with
  | r j => cases hf3
  | v k2 z =>
    have hf := hf3
    clear hf3
    simp only at hf
    split at hf
    · rename_i hk
      obtain ⟨ks, hks, rfl⟩ := Option.map_eq_some_iff.mp hf
      obtain ⟨a1, ha, hg1⟩ := val_some hu
      obtain ⟨a2, hb, hg2⟩ := val_some hv
      refine ⟨G0, ρ, ws, a1, I, ha, fun x1 H1 I1 => ?_⟩
      have hx1 : ∃ p, x1 = .ref p ∧ IsD H1 p := by
        obtain ⟨G, F1, F2, J⟩ := I1
        obtain ⟨Fx, rx⟩ := J.top hg1
        obtain ⟨p, xs, rfl, h1, _⟩ := rx.dct1 J.ex hk
        cases t
        · exact ⟨p, rfl, .inl ⟨_, (h1 : Rd _ _ (.dK _))⟩⟩
        · exact ⟨p, rfl, .inr ⟨_, (h1 : Rd _ _ (.dT _))⟩⟩
      obtain ⟨p, rfl, hp⟩ := hx1
      refine ⟨p, rfl, hp, G0, ρ, (V.ref p, a1) :: ws, a2, I1, hb, fun y H2 I2 => ⟨G0, ρ, (y, a2) :: (V.ref p, a1) :: ws, .v k2 z, I2, hc, fun z' H3 I3 => ?_⟩⟩
      obtain ⟨G, F1, F2, J⟩ := I3
      obtain ⟨G', F3, J1, e1, rz⟩ := J.freeze
      obtain ⟨Fy, ry⟩ := Si.top (ws := (V.ref p, a1) :: ws) J1 hg2
      obtain ⟨F4, _, J2⟩ := Si.drop (ws := (V.ref p, a1) :: ws) J1
      obtain ⟨Fx, rx⟩ := Si.top (ws := ws) J2 hg1
      obtain ⟨F5, _, J3⟩ := Si.drop (ws := ws) J2
      obtain ⟨p', xs, ep, h1, h2, h3⟩ := rx.dct1 J3.ex hk
      cases ep
      refine ⟨_, dget_rep J3.ex h1 h2 hks ry, ?_⟩
      cases hd : valD kvs ks with
      | none =>
        rw [hd] at q
        rw [valD_none h3 hd]
        exact q _ _ (J3.pushF rz).SI
      | some d =>
        rw [hd] at q
        obtain ⟨w, hw, rw'⟩ := valD_some h3 hd
        rw [hw]
        exact q _ _ (J3.pushF rw').SI
    · cases hf
/-! ### dicts: writing -/
def putD (kvs : List (List Key × D)) (k : List Key) (d : D) : List (List Key × D) :=
  if (valD kvs k).isSome = true then kvs.map (fun p => if p.1 = k then (p.1, d) else p) else kvs ++ [(k, d)]
theorem RepFk.map {k : List Key} {d : D} {y : V} (hy : RepF K G d y) : ∀ {kvs : List (List Key × D)} {xs : List (List Key × V)}, RepFk K G kvs xs → RepFk K G (kvs.map fun p => if p.1 = k then (p.1, d) else p) (xs.map fun p => if p.1 = k then (p.1, y) else p)
  | [], _, h => by rw [show _ = [] from h]; exact (rfl : ([] : List (List Key × V)) = [])
  | (k', d') :: r, _, ⟨x, xs, h1, h2, h3⟩ => by
    subst h1
    rw [List.map_cons, List.map_cons]
    by_cases e : k' = k
    · rw [if_pos e, if_pos e]
      exact ⟨y, _, rfl, hy, RepFk.map hy h3⟩
    · rw [if_neg e, if_neg e]
      exact ⟨x, _, rfl, h2, RepFk.map hy h3⟩
theorem RepFk.snoc {k : List Key} {d : D} {y : V} (hy : RepF K G d y) : ∀ {kvs : List (List Key × D)} {xs : List (List Key × V)}, RepFk K G kvs xs → RepFk K G (kvs ++ [(k, d)]) (xs ++ [(k, y)])
  | [], _, h => by rw [show _ = [] from h]; exact ⟨y, [], rfl, hy, rfl⟩
  | (k', d') :: r, _, ⟨x, xs, h1, h2, h3⟩ => by subst h1; exact ⟨x, xs ++ [(k, y)], rfl, h2, RepFk.snoc hy h3⟩
theorem RepFk.len : ∀ {kvs : List (List Key × D)} {xs : List (List Key × V)}, RepFk K G kvs xs → xs.length = kvs.length
  | [], _, h => by rw [show _ = [] from h]; rfl
  | (k', d') :: r, _, ⟨x, xs, h1, h2, h3⟩ => by rw [h1, List.length_cons, List.length_cons, RepFk.len h3]
theorem put_rep {kvs : List (List Key × D)} {xs : List (List Key × V)} {k : List Key} {d : D} {y : V} (h : RepFk K G kvs xs) (hy : RepF K G d y) : RepFk K G (putD kvs k d) (putK xs k y) := by
  unfold putD putK
  rw [valV_any]
  have : (valV xs k).isSome = (valD kvs k).isSome := by
    cases hc : valD kvs k with
    | none => rw [valD_none h hc]; rfl
    | some c => obtain ⟨z, hz, _⟩ := valD_some h hc; rw [hz]; rfl
  rw [this]
  split
  · exact h.map hy
  · exact h.snoc hy
theorem put_head {k : Key} {y : V} {xs : List (List Key × V)} (ok : ∀ p ∈ xs, ∃ k, p.1 = [k]) : (putK xs [k] y).map (fun p => (p.1.headD (.inl 0), p.2)) = putK (xs.map fun p => (p.1.headD (.inl 0), p.2)) k y := by
  unfold putK
  rw [valV_any, valV_any, valV_head k xs ok]
  split
  · rw [List.map_map, List.map_map]
    refine List.map_congr_left fun p hp => ?_
    obtain ⟨j, hj⟩ := ok p hp
    simp only [Function.comp]
    by_cases e : j = k
    · rw [if_pos (by rw [hj, e]), if_pos (by rw [hj]; exact e)]
    · rw [if_neg (by rw [hj]; simpa using e), if_neg (by rw [hj]; exact e)]
  · rw [List.map_append]; rfl
theorem put_ok {t : Bool} {d : D} {k : List Key} {y : V} {xs : List (List Key × V)} (hk : keyD t d = some k) (ok : keysOk t xs) : keysOk t (putK xs k y) := by
  intro ht p hp
  subst ht
  obtain ⟨κ, _, rfl⟩ := Option.map_eq_some_iff.mp hk
  unfold putK at hp
  split at hp
  · obtain ⟨q, hq, e⟩ := List.mem_map.mp hp
    obtain ⟨j, hj⟩ := ok rfl q hq
    split at e
    · subst e; exact ⟨j, hj⟩
    · subst e; exact ⟨j, hj⟩
  · rcases List.mem_append.mp hp with q | q
    · exact ok rfl p q
    · rw [List.mem_singleton.mp q]; exact ⟨κ, rfl⟩
theorem dput_rep {t : Bool} {a : Addr} {xs : List (List Key × V)} {k : Nat} {d : D} {v y : V} {ks : List Key} (e : Same G H) (h : H a = some (hoD t xs)) (ok : keysOk t xs) (hk : keyD t d = some ks) (r : RO K G H k d v F) (hz : xs.length < sizeLine) :
    DPut H a v y (upd H a (hoD t (putK xs ks y))) := by
  cases t with
  | false =>
    obtain ⟨κ, hκ, rfl⟩ := Option.map_eq_some_iff.mp hk
    obtain rfl := keyK_rep hκ r
    refine .inl ⟨_, κ, h, rfl, by simpa using hz, ?_⟩
    rw [← put_head (ok rfl)]; rfl
  | true =>
    cases d <;> first | (cases hk; done) | skip
    obtain ⟨b, ys, rfl, h1, h2⟩ := r.tupE
    exact .inr ⟨xs, ks, b, h, rfl, by rw [e _ _ h1, keysK_rep hk h2], hz, rfl⟩
/-- x[k] = e, x a dict in slot i -/
def sPut (i : Nat) (B A : Fe) : Fs := fun ρ => (A ρ).bind fun a => match a with
  | .v _ d => ((ρ[i]?).join).bind fun w => match w with
    | (1, .dct t kvs) => (val B ρ).bind fun u => if kvs.length < big then (keyD t u.2).map fun ks => (.nx, ρ.set i (some (1, .dct t (putD kvs ks d)))) else none
    | _ => none
  | .r _ => none
theorem s_put {i : Nat} {x : Str} {p tpos : Pos} (hu : X.A.units + 1 < cLine) (he : OkE X e A) (hb : OkE X b B) (hN : X.N[i]? = some x := by rfl) (hv : Vis X.env.scope x := by first | exact Or.inl rfl | exact Or.inr (Or.inl rfl) | exact Or.inr (Or.inr rfl)) (hd : (x == ("__debug__" : Str)) = false := by decide) (hcd : (x == ("__classdict__" : Str)) = false := by decide)
    (hs : swapsWith e (some (.Subscript (.Name x p) b tpos)) pos.line X.env = pure false := by rfl) : OkS X (.Assign [.Subscript (.Name x p) b tpos] e pos) (sPut i B A) := PS.imp (ps_dput hu (pe_var hN hv hd hcd) hb he hs) fun D σ H ⟨G0, ρ, fl, ρ', I, hf, post⟩ => by
  obtain ⟨a, ha, hf⟩ := Option.bind_eq_some_iff.mp hf
  cases a with
  | r j => cases hf
  | v j d =>
    obtain ⟨w, hw, hf⟩ := Option.bind_eq_some_iff.mp hf
    split at hf
    · rename_i t kvs
      obtain ⟨u, hu, hf⟩ := Option.bind_eq_some_iff.mp hf
      split at hf
      · rename_i hz
        obtain ⟨ks, hks, hf⟩ := Option.map_eq_some_iff.mp hf
        cases hf
        obtain ⟨a2, ha2, hg2⟩ := val_some hu
        have hρ := join_some hw
        refine ⟨G0, ρ, [], _, I, ha, fun y H1 I1 => ?_⟩
        have hx : ∃ p, σ[i]? = some (some (.ref p)) := by
          obtain ⟨G, F1, F2, J⟩ := I1
          obtain ⟨v, Fi, h1, h2, _⟩ := J.sl.at hρ
          obtain ⟨p, xs, rfl, h3, _⟩ := RO.dct1 J.ex (Nat.le_refl 1) h2
          exact ⟨p, h1⟩
        obtain ⟨p, hp⟩ := hx
        refine ⟨.ref p, hp, G0, ρ, [(y, .v j d)], a2, I1, ha2, fun z H2 I2 => ?_⟩
        obtain ⟨G, F1, F2, J⟩ := I2
        obtain ⟨Fz, rz⟩ := J.top hg2
        obtain ⟨F3, _, J1⟩ := J.drop
        obtain ⟨G2, F4, J2, e2, r2⟩ := J1.freeze
        have rz' : ∃ Fz', RO X.K G2 H2 u.1 u.2 z Fz' := ⟨Fz, RO.mono e2 _ _ _ Fz (fun _ _ => rfl) rz⟩
        obtain ⟨Fz', rz'⟩ := rz'
        obtain ⟨v, Fa, Fi, Fb, e1, h1, h2, h3⟩ := J2.slot hρ
        rw [hp] at h1
        cases h1
        obtain ⟨p', xs, F', q0, h4, hok, rfl, h5⟩ := h2
        cases q0
        subst e1
        obtain ⟨h6, h7⟩ := ROk.to_F h5
        subst h7
        refine ⟨p, _, rfl, dput_rep J2.ex h4 hok hks rz' (by rw [h6.len]; exact big_lt hz), post _ _ ?_⟩
        exact SI.upd (w := (1, .dct t kvs)) (F'' := []) J2 (isOwn_hoD t _) h3 List.nodup_nil (fun b hb => by cases hb) ⟨p, _, [], rfl, upd_same, put_ok hks hok, rfl, ROk.of_F (put_rep h6 r2)⟩
      · cases hf
    · cases hf
end
end Pv
set_option Elab.async false
set_option linter.all false
set_option maxRecDepth 100000
/-! P12: builtins -/
namespace Pv
open PySem PySem.Spec PyProof.Rows L2
section
variable {X : Cx} {K : PySem.W.Frag} {G0 G G1 G' H H' : Hp} {σ : L2.St} {ρ : Env} {ws : List (V × Arg)} {F F1 F2 : List Addr} {e a b c tg : Expr} {es : List Expr} {pos : Pos} {A B C : Fe}
/-! ### len, int, abs -/
theorem RO.seq {k : Nat} {d : D} {v : V} {bb : Bool} {ds : List D} (e : Same G H) (h : seqD d = some (bb, ds)) (r : RO K G H k d v F) : ∃ a n, v = .ref a ∧ n = ds.length ∧ ((∃ xs, SqL K H a xs ∧ n = xs.length) ∨ ∃ xs, SqT K H a xs ∧ n = xs.length) := by
  cases d <;> first | (cases h; done) | skip
  · cases h; obtain ⟨a, xs, h1, h2, h3⟩ := r.tup; exact ⟨a, _, h1, rfl, .inr ⟨xs, same_t e h2, h3.len.symm⟩⟩
  · cases h; obtain ⟨a, xs, h1, h2, h3⟩ := r.lstN e; exact ⟨a, _, h1, rfl, .inl ⟨xs, SqL.of h2, h3.symm⟩⟩
  · cases h; obtain ⟨a, xs, h1, h2, h3⟩ := r.ktp; exact ⟨a, _, h1, rfl, .inr ⟨xs, same_t e h2.sq, h3.len.symm⟩⟩
def gLen : W → Option W
  | (_, .str z) => if z.length ≤ big then some (0, .int (z.length : Nat)) else none
  | (_, .scr ns) => some (0, .int (ns.length : Nat))
  | (_, d) => (seqD d).map fun p => (0, .int (p.2.length : Nat))
theorem g_len : Op1 K (fun x H Q => ∃ y n, [x] = [y] ∧ LenV K y H n ∧ Q (.int n) H) gLen := by
  intro G H u x Fu w e ru hw
  unfold gLen at hw; split at hw
  · split at hw
    · rename_i hz
      cases hw
      obtain rfl := ru.str
      exact Res.pure (v := .int _) e rfl fun Q q => ⟨_, _, rfl, ⟨big_line hz, rfl⟩, q⟩
    · cases hw
  · cases hw
    obtain ⟨a, rfl, h⟩ := ru.scr
    exact Res.pure (v := .int _) e rfl fun Q q => ⟨_, _, rfl, .inl ⟨_, same_l e h, by simp⟩, q⟩
  · obtain ⟨⟨bb, ds⟩, hp, rfl⟩ := Option.map_eq_some_iff.mp hw
    obtain ⟨a, n, rfl, rfl, h⟩ := ru.seq e hp
    exact Res.pure (v := .int _) e rfl fun Q q => ⟨_, _, rfl, h, q⟩
theorem e_len {p : Pos} (hg : Gl X "len") (hm : X.mg "len" = none) (ha : OkE X a A) (hs : starEach (a :: []) X.env = (false, eval a X.env) :: starEach [] X.env := by rfl) : OkE X (.Call (.Name "len" p) [a] [] pos) (pCall (on1 gLen) (aCons A aNil)) :=
  e_bi call_len (opN_1 g_len) hg hm (by rfl) (a_cons ha a_nil hs) (hs := hs)
def gInt : W → Option W
  | (_, .int i) => some (0, .int i)
  | (_, .bl b) => some (0, .int (if b then 1 else 0))
  | _ => none
theorem g_int : Op1 K (fun x H Q => (∃ i, [x] = [.int i] ∧ Q (.int i) H) ∨ ∃ k, [x] = [.bl k] ∧ Q (.int (if k then 1 else 0)) H) gInt := by
  intro G H u x Fu w e ru hw
  unfold gInt at hw; split at hw
  · cases hw
    obtain rfl := ru.int
    exact Res.pure (v := .int _) e rfl fun Q q => .inl ⟨_, rfl, q⟩
  · cases hw
    obtain rfl := ru.bl
    exact Res.pure (v := .int _) e rfl fun Q q => .inr ⟨_, rfl, q⟩
  · cases hw
theorem e_intF {p : Pos} (hg : Gl X "int") (hm : X.mg "int" = none) (ha : OkE X a A) (hs : starEach (a :: []) X.env = (false, eval a X.env) :: starEach [] X.env := by rfl) : OkE X (.Call (.Name "int" p) [a] [] pos) (pCall (on1 gInt) (aCons A aNil)) :=
  e_ty call_int1 (opN_1 g_int) hg hm (by rfl) (a_cons ha a_nil hs) (hs := hs)
def gAbs : W → Option W
  | (_, .int i) => some (0, .int (if i < 0 then -i else i))
  | _ => none
theorem g_abs : Op1 K (fun x H Q => ∃ i, [x] = [.int i] ∧ Q (.int (if i < 0 then -i else i)) H) gAbs := by
  intro G H u x Fu w e ru hw
  unfold gAbs at hw; split at hw
  · cases hw
    obtain rfl := ru.int
    exact Res.pure (v := .int _) e rfl fun Q q => ⟨_, rfl, q⟩
  · cases hw
theorem e_abs {p : Pos} (hg : Gl X "abs") (hm : X.mg "abs" = none) (ha : OkE X a A) (hs : starEach (a :: []) X.env = (false, eval a X.env) :: starEach [] X.env := by rfl) : OkE X (.Call (.Name "abs" p) [a] [] pos) (pCall (on1 gAbs) (aCons A aNil)) :=
  e_bi call_abs (opN_1 g_abs) hg hm (by rfl) (a_cons ha a_nil hs) (hs := hs)
/-! ### isinstance -/
inductive Ty where | non | bl | int | str | tup | lst | dct deriving DecidableEq
def Ty.name : Ty → String
  | .non => "NoneType" | .bl => "bool" | .int => "int" | .str => "str" | .tup => "tuple" | .lst => "list" | .dct => "dict"
def tyD : D → Ty
  | .non => .non | .bl _ => .bl | .int _ => .int | .str _ => .str | .tup _ => .tup | .ktp _ => .tup | .lst _ => .lst | .scr _ => .lst | .dct _ _ => .dct
def isiB (t c : Ty) : Bool := t == c || (t == .bl && c == .int)
theorem isi_K (t c : Ty) : PySem.W.kitOne K (.type t.name) (.type c.name) = some (isiB t c) := by
  cases t <;> cases c <;> rfl
theorem TyX.lstR {x : Addr} {xs : List V} (h : SqL K H x xs) : TyX K H (.ref x) (.type "list") := by
  rcases h with (h | ⟨o, h⟩) | ⟨o, its, n, h1, h2, _⟩
  · exact .base (.lst h)
  · exact .base (.frz h)
  · exact .kList h1 h2
theorem TyX.tupR {x : Addr} {xs : List V} (h : SqT K H x xs) : TyX K H (.ref x) (.type "tuple") := by
  rcases h with (h | ⟨o, h⟩) | ⟨o, its, n, h1, h2, _⟩
  · exact .base (.tup h)
  · exact .fTuple h
  · exact .kTuple h1 h2
/-- a dict of tuple keys, locked: not told -/
theorem TyX.of {k : Nat} {d : D} {v : V} (e : Same G H) (hd : tyD d ≠ .dct) (r : RO K G H k d v F) : TyX K H v (.type (tyD d).name) := by
  cases d with
  | non => obtain rfl := r.non; exact .base .non
  | bl b => obtain rfl := r.bl; exact .base (.bl b)
  | int b => obtain rfl := r.int; exact .base (.int b)
  | str b => obtain rfl := r.str; exact .base (.str b)
  | tup ds => obtain ⟨a, xs, rfl, h, _⟩ := r.tup; exact TyX.tupR (same_t e h)
  | ktp ds => obtain ⟨a, xs, rfl, h, _⟩ := r.ktp; exact TyX.tupR (same_t e h.sq)
  | scr ns => obtain ⟨a, rfl, h⟩ := r.scr; exact TyX.lstR (same_l e h)
  | lst ds => obtain ⟨a, xs, rfl, h, _⟩ := r.lstN e; exact TyX.lstR (SqL.of h)
  | dct t ds => exact absurd rfl hd
def gIsi (c : Ty) : W → Option W := fun w => if tyD w.2 ≠ .dct then some (0, .bl (isiB (tyD w.2) c)) else none
def pIsi (c : Ty) (A : Fe) : Fe := pOp1 (gIsi c) A
theorem e_isi {p p2 : Pos} {cn : Str} (c : Ty) (hg : Gl X "isinstance") (hm : X.mg "isinstance" = none) (hg2 : Gl X cn) (hm2 : X.mg cn = none) (ha : OkE X a A) (hv : bootBuiltins cn = some (.type c.name) := by rfl) (hn : cn ≠ "__name__" := by decide) (hd : (cn == ("__debug__" : Str)) = false := by decide)
    (hs : starEach (a :: [.Name cn p2]) X.env = (false, eval a X.env) :: starEach [.Name cn p2] X.env := by rfl) : OkE X (.Call (.Name "isinstance" p) [a, .Name cn p2] [] pos) (pIsi c A) :=
  PE.imp (pe_callB call_isi hg hm (by rfl) (pa_cons ha (pa_cons (pe_bltn hg2 hm2 hv (show RelV (.ty c.name) (.type c.name) from rfl) hn hd) pa_nil (by rfl)) hs) (by decide) (by decide) hs (by rfl)) fun σ H Q h => by
  refine op1_imp (r := fun x H Q => rIsi X.K [x, .ty c.name] H Q) ?_ σ H Q h
  intro G H u x Fu w e ru hw
  unfold gIsi at hw
  split at hw
  · rename_i hne
    cases hw
    exact Res.pure (v := .bl _) e rfl fun Q q => ⟨_, _, _, _, _, rfl, ClsV.ty _, TyX.of e hne ru, isi_K _ _, q⟩
  · cases hw
/-! ### flat data; in -/
def flatD : D → Bool
  | .non => true | .bl _ => true | .int _ => true | .str _ => true | _ => false
def eqF : D → D → Bool
  | .non, .non => true
  | .bl a, .bl b => a == b
  | .bl a, .int b => (if a then 1 else 0) == b
  | .int a, .bl b => a == (if b then 1 else 0)
  | .int a, .int b => a == b
  | .str a, .str b => a == b
  | _, _ => false
theorem flat_rep {d : D} {v : V} (h : flatD d = true) (r : RepF K G d v) : flatV v = true := by
  cases d <;> first | (cases h; done) | (rw [show v = _ from r]; rfl)
theorem flats_rep : ∀ {ds : List D} {xs : List V}, ds.all flatD = true → RepFs K G ds xs → xs.all flatV = true
  | [], _, _, r => by rw [show _ = [] from r]; rfl
  | d :: ds, _, h, ⟨x, r, h1, h2, h3⟩ => by
    rw [List.all_cons, Bool.and_eq_true] at h
    rw [h1, List.all_cons, flat_rep h.1 h2, flats_rep h.2 h3]; rfl
theorem eqF_rep {d c : D} {v y : V} (h : flatD d = true) (h' : flatD c = true) (r : RepF K G d v) (r' : RepF K G c y) : eqV v y = eqF d c := by
  cases d <;> first | (cases h; done) | skip
  all_goals (cases c <;> first | (cases h'; done) | (rw [show v = _ from r, show y = _ from r']; rfl))
def inF (d : D) (ds : List D) : Bool := ds.any fun c => eqF c d
theorem inF_rep {d : D} {v : V} (h : flatD d = true) (r : RepF K G d v) : ∀ {ds : List D} {xs : List V}, ds.all flatD = true → RepFs K G ds xs → inV v xs = inF d ds
  | [], _, _, q => by rw [show _ = [] from q]; rfl
  | c :: ds, _, hd, ⟨x, xs, h1, h2, h3⟩ => by
    rw [List.all_cons, Bool.and_eq_true] at hd
    have := inF_rep h r hd.2 h3
    unfold inV inF at this ⊢
    rw [h1, List.any_cons, List.any_cons, this, eqF_rep hd.1 h h2 r]
def gIn (neg : Bool) : W → W → Option W
  | (_, d), (k, .lst ds) => if k ≤ 1 ∧ flatD d = true ∧ ds.all flatD = true then some (0, .bl (neg != inF d ds)) else none
  | (_, d), (_, .tup ds) => if flatD d = true ∧ ds.all flatD = true then some (0, .bl (neg != inF d ds)) else none
  | (_, d), (_, .ktp ds) => if flatD d = true ∧ ds.all flatD = true then some (0, .bl (neg != inF d ds)) else none
  | _, _ => none
theorem flat_plain {d : D} (h : flatD d = true) : isBox d = false := by cases d <;> first | rfl | cases h
theorem g_in (neg : Bool) : Op2 K (rIn K neg) (gIn neg) := by
  intro G H u v x y Fu Fv w e ru rv hw
  have key : ∀ (d : D) (ds : List D) (p : Addr) (xs : List V), u.2 = d → y = .ref p → (SqL K H p xs ∨ SqT K H p xs) → RepFs K G ds xs → flatD d = true → ds.all flatD = true → w = (0, .bl (neg != inF d ds)) → Res K G H w (rIn K neg x y H) := by
    intro d ds p xs hd hy hq hr f1 f2 hw
    subst hd hy hw
    obtain ⟨r1, _⟩ := ru.plain (flat_plain f1)
    refine Res.pure (v := .bl (if neg then !inV x xs else inV x xs)) e ?_ fun Q q => ⟨p, xs, rfl, hq, flat_rep f1 r1, flats_rep f2 hr, q⟩
    show V.bl _ = V.bl _
    rw [inF_rep f1 r1 f2 hr]
    cases neg
    · rw [Bool.false_bne]; rfl
    · rw [Bool.true_bne]; rfl
  unfold gIn at hw; split at hw
  · split at hw
    · rename_i ok
      cases hw
      obtain ⟨a, xs, h1, h2, h3⟩ := rv.lst1 e ok.1
      exact key _ _ a xs rfl h1 (.inl (SqL.of h2)) h3 ok.2.1 ok.2.2 rfl
    · cases hw
  · split at hw
    · rename_i ok
      cases hw
      obtain ⟨a, xs, h1, h2, h3⟩ := rv.tup
      exact key _ _ a xs rfl h1 (.inr (same_t e h2)) h3 ok.1 ok.2 rfl
    · cases hw
  · split at hw
    · rename_i ok
      cases hw
      obtain ⟨a, xs, h1, h2, h3⟩ := rv.ktp
      exact key _ _ a xs rfl h1 (.inr (same_t e h2.sq)) h3 ok.1 ok.2 rfl
    · cases hw
  · cases hw
theorem e_in (ha : OkE X a A) (hb : OkE X b B) (hm : behindInMarks .In b = false := by rfl) : OkE X (.Compare a [.In] [b] pos) (pOp2 (gIn false) A B) := e_cmp op_in_seq (g_in false) ha hb hm
theorem e_notin (ha : OkE X a A) (hb : OkE X b B) (hm : behindInMarks .NotIn b = false := by rfl) : OkE X (.Compare a [.NotIn] [b] pos) (pOp2 (gIn true) A B) := e_cmp op_notIn_seq (g_in true) ha hb hm
/-! ### ints of a list or tuple: sum, min, max, sorted -/
def intsD : List D → Option (List Int)
  | [] => some []
  | .int i :: ds => (intsD ds).map fun r => i :: r
  | _ :: _ => none
theorem ints_rep : ∀ {ds : List D} {xs : List V} {ns : List Int}, intsD ds = some ns → RepFs K G ds xs → xs = ns.map V.int
  | [], _, _, h, r => by cases h; exact r
  | d :: ds, _, ns, h, ⟨x, r, h1, h2, h3⟩ => by
    cases d <;> first | (cases h; done) | skip
    obtain ⟨ms, hm, rfl⟩ := Option.map_eq_some_iff.mp h
    rw [h1, ints_rep hm h3, show x = _ from h2]; rfl
theorem sum_rawT {prog : Program} {w : World} {A : Around} {E : Value → Shared → Prop} {s : Shared} {l : Addr} {its : List Value} {ns : List Int} {Q : Value → Shared → Prop} (hh : A.handled = none) (hl : s.heap.IsTuple l its.toArray) (hi : IntsAre its ns)
    (h : ∀ h' tk t', (∀ b o, s.heap.get? b = some o → h'.get? b = some o) → Q (.int ns.sum t') { s with heap := h', toks := tk }) : wpAny (model prog w) A (call (.builtin "sum") [.ref l]) Q E s := by
  obtain ⟨xs, e⟩ := hi.allInts.items
  have hn : numsOf (intItems xs).toList = ns := by rw [← e]; exact hi.numsOf
  rw [nums_intItems] at hn
  rw [e] at hl
  refine PySem.W.ktm_sumG hh hl fun h' tk t' hk => ?_
  have := h h' tk t' hk
  rw [preSum_eq, List.take_of_length_le (by simp), hn]; exact this
def rSumT (K : PySem.W.Frag) : List V → Hp → VK → Prop := fun vs H Q => ∃ (a : Addr) (ns : List Int), vs = [V.ref a] ∧ (SqL K H a (ns.map V.int) ∨ SqT K H a (ns.map V.int)) ∧ Q (.int ns.sum) H
theorem cr_sumT (hc : X.calm = true) : CallR X (.builtin "sum") (rSumT X.K) := by
  intro pins s σ H vs us Q I r h
  obtain ⟨a, ns, rfl, hs | hs, q⟩ := h
  · exact cr_sum hc pins s σ H [.ref a] us Q I r ⟨a, ns, rfl, hs, q⟩
  · obtain ⟨its, rv, hl, _⟩ := I.tuple hs
    rw [Vals.ref1 r]
    exact sum_rawT (I.ok.hd hc) hl rv.ints fun h' tk t' hk => ⟨.int _, H, I.kept hk, ⟨_, rfl⟩, q⟩
/-- the items of a list (owned at most at its top) or tuple -/
def itemsD : W → Option (List D)
  | (k, .lst ds) => if k ≤ 1 then some ds else none
  | (_, .tup ds) => some ds
  | (_, .ktp ds) => some ds
  | _ => none
theorem items_rep {u : W} {x : V} {ds : List D} (e : Same G H) (h : itemsD u = some ds) (r : RO K G H u.1 u.2 x F) : ∃ a xs, x = .ref a ∧ (SqL K H a xs ∨ SqT K H a xs) ∧ RepFs K G ds xs := by
  unfold itemsD at h; split at h
  · split at h
    · rename_i hk
      cases h
      obtain ⟨a, xs, h1, h2, h3⟩ := r.lst1 e hk
      exact ⟨a, xs, h1, .inl (SqL.of h2), h3⟩
    · cases h
  · cases h; obtain ⟨a, xs, h1, h2, h3⟩ := r.tup; exact ⟨a, xs, h1, .inr (same_t e h2), h3⟩
  · cases h; obtain ⟨a, xs, h1, h2, h3⟩ := r.ktp; exact ⟨a, xs, h1, .inr (same_t e h2.sq), h3⟩
  · cases h
def gSum : W → Option W := fun u => (itemsD u).bind fun ds => (intsD ds).map fun ns => (0, .int ns.sum)
theorem g_sum : Op1 K (fun x H Q => rSumT K [x] H Q) gSum := by
  intro G H u x Fu w e ru hw
  obtain ⟨ds, hd, hw⟩ := Option.bind_eq_some_iff.mp hw
  obtain ⟨ns, hn, rfl⟩ := Option.map_eq_some_iff.mp hw
  obtain ⟨a, xs, rfl, h1, h2⟩ := items_rep e hd ru
  have := ints_rep hn h2
  subst this
  exact Res.pure (v := .int _) e rfl fun Q q => ⟨a, ns, rfl, h1, q⟩
theorem e_sum {p : Pos} (hc : X.calm = true) (hg : Gl X "sum") (hm : X.mg "sum" = none) (ha : OkE X a A) (hs : starEach (a :: []) X.env = (false, eval a X.env) :: starEach [] X.env := by rfl) : OkE X (.Call (.Name "sum" p) [a] [] pos) (pCall (on1 gSum) (aCons A aNil)) :=
  e_bi (cr_sumT hc) (opN_1 g_sum) hg hm (by rfl) (a_cons ha a_nil hs) (hs := hs)
def listD : W → Option (List D)
  | (k, .lst ds) => if k ≤ 1 then some ds else none
  | _ => none
theorem list_rep {u : W} {x : V} {ds : List D} (e : Same G H) (h : listD u = some ds) (r : RO K G H u.1 u.2 x F) : ∃ a xs, x = .ref a ∧ SqL K H a xs ∧ RepFs K G ds xs := by
  unfold listD at h; split at h
  · split at h
    · rename_i hk
      cases h
      obtain ⟨a, xs, h1, h2, h3⟩ := r.lst1 e hk
      exact ⟨a, xs, h1, SqL.of h2, h3⟩
    · cases h
  · cases h
def minI : Int → List Int → Int
  | m, [] => m
  | m, n :: ns => minI (if n < m then n else m) ns
def maxI : Int → List Int → Int
  | m, [] => m
  | m, n :: ns => maxI (if m < n then n else m) ns
theorem minI_spec : ∀ (m : Int) (ns : List Int), (minI m ns = m ∨ minI m ns ∈ ns) ∧ minI m ns ≤ m ∧ ∀ y ∈ ns, minI m ns ≤ y
  | m, [] => ⟨.inl rfl, Int.le_refl _, fun y h => by cases h⟩
  | m, n :: ns => by
    unfold minI
    obtain ⟨h1, h2, h3⟩ := minI_spec (if n < m then n else m) ns
    split at h1 <;> split at h2 <;> rename_i c c' <;> first | (exact absurd c c') | (exact absurd c' c) | skip
    · rw [if_pos c] at h3 ⊢
      refine ⟨.inr ?_, by omega, fun y hy => ?_⟩
      · rcases h1 with h1 | h1
        · rw [h1]; exact List.mem_cons_self
        · exact List.mem_cons_of_mem _ h1
      · rcases List.mem_cons.mp hy with rfl | hy
        · exact h2
        · exact h3 y hy
    · rw [if_neg c] at h3 ⊢
      refine ⟨?_, h2, fun y hy => ?_⟩
      · rcases h1 with h1 | h1
        · exact .inl h1
        · exact .inr (List.mem_cons_of_mem _ h1)
      · rcases List.mem_cons.mp hy with rfl | hy
        · omega
        · exact h3 y hy
theorem maxI_spec : ∀ (m : Int) (ns : List Int), (maxI m ns = m ∨ maxI m ns ∈ ns) ∧ m ≤ maxI m ns ∧ ∀ y ∈ ns, y ≤ maxI m ns
  | m, [] => ⟨.inl rfl, Int.le_refl _, fun y h => by cases h⟩
  | m, n :: ns => by
    unfold maxI
    obtain ⟨h1, h2, h3⟩ := maxI_spec (if m < n then n else m) ns
    split at h1 <;> split at h2 <;> rename_i c c' <;> first | (exact absurd c c') | (exact absurd c' c) | skip
    · rw [if_pos c] at h3 ⊢
      refine ⟨.inr ?_, by omega, fun y hy => ?_⟩
      · rcases h1 with h1 | h1
        · rw [h1]; exact List.mem_cons_self
        · exact List.mem_cons_of_mem _ h1
      · rcases List.mem_cons.mp hy with rfl | hy
        · exact h2
        · exact h3 y hy
    · rw [if_neg c] at h3 ⊢
      refine ⟨?_, h2, fun y hy => ?_⟩
      · rcases h1 with h1 | h1
        · exact .inl h1
        · exact .inr (List.mem_cons_of_mem _ h1)
      · rcases List.mem_cons.mp hy with rfl | hy
        · omega
        · exact h3 y hy
def gMin : W → Option W := fun u => (listD u).bind fun ds => (intsD ds).bind fun ns => match ns with
  | [] => none
  | n :: r => some (0, .int (minI n r))
def gMax : W → Option W := fun u => (listD u).bind fun ds => (intsD ds).bind fun ns => match ns with
  | [] => none
  | n :: r => some (0, .int (maxI n r))
theorem g_min : Op1 K (fun x H Q => rMin K [x] H Q) gMin := by
  intro G H u x Fu w e ru hw
  obtain ⟨ds, hd, hw⟩ := Option.bind_eq_some_iff.mp hw
  obtain ⟨ns, hn, hw⟩ := Option.bind_eq_some_iff.mp hw
  obtain ⟨a, xs, rfl, h1, h2⟩ := list_rep e hd ru
  have := ints_rep hn h2
  subst this
  cases ns with
  | nil => cases hw
  | cons n r =>
    cases hw
    obtain ⟨m1, m2, m3⟩ := minI_spec n r
    refine Res.pure (v := .int _) e rfl fun Q q => ⟨a, n :: r, rfl, h1, Nat.succ_pos _, fun m hm hle => ?_⟩
    have : m = minI n r := by
      apply Int.le_antisymm
      · rcases m1 with q | q
        · rw [q]; exact hle n List.mem_cons_self
        · exact hle _ (List.mem_cons_of_mem _ q)
      · rcases List.mem_cons.mp hm with rfl | q
        · exact m2
        · exact m3 m q
    rw [this]; exact q
theorem g_max : Op1 K (fun x H Q => rMax K [x] H Q) gMax := by
  intro G H u x Fu w e ru hw
  obtain ⟨ds, hd, hw⟩ := Option.bind_eq_some_iff.mp hw
  obtain ⟨ns, hn, hw⟩ := Option.bind_eq_some_iff.mp hw
  obtain ⟨a, xs, rfl, h1, h2⟩ := list_rep e hd ru
  have := ints_rep hn h2
  subst this
  cases ns with
  | nil => cases hw
  | cons n r =>
    cases hw
    obtain ⟨m1, m2, m3⟩ := maxI_spec n r
    refine Res.pure (v := .int _) e rfl fun Q q => ⟨a, n :: r, rfl, h1, Nat.succ_pos _, fun m hm hle => ?_⟩
    have : m = maxI n r := by
      apply Int.le_antisymm
      · rcases List.mem_cons.mp hm with rfl | q
        · exact m2
        · exact m3 m q
      · rcases m1 with q | q
        · rw [q]; exact hle n List.mem_cons_self
        · exact hle _ (List.mem_cons_of_mem _ q)
    rw [this]; exact q
theorem e_min {p : Pos} (hc : X.calm = true) (hg : Gl X "min") (hm : X.mg "min" = none) (ha : OkE X a A) (hs : starEach (a :: []) X.env = (false, eval a X.env) :: starEach [] X.env := by rfl) : OkE X (.Call (.Name "min" p) [a] [] pos) (pCall (on1 gMin) (aCons A aNil)) :=
  e_bi (cr_min hc) (opN_1 g_min) hg hm (by rfl) (a_cons ha a_nil hs) (hs := hs)
theorem e_max {p : Pos} (hc : X.calm = true) (hg : Gl X "max") (hm : X.mg "max" = none) (ha : OkE X a A) (hs : starEach (a :: []) X.env = (false, eval a X.env) :: starEach [] X.env := by rfl) : OkE X (.Call (.Name "max" p) [a] [] pos) (pCall (on1 gMax) (aCons A aNil)) :=
  e_bi (cr_max hc) (opN_1 g_max) hg hm (by rfl) (a_cons ha a_nil hs) (hs := hs)
/-- all(xs), any(xs) of bools -/
def blsD : List D → Option (List Bool)
  | [] => some []
  | .bl i :: ds => (blsD ds).map fun r => i :: r
  | _ :: _ => none
theorem bls_rep : ∀ {ds : List D} {xs : List V} {ns : List Bool}, blsD ds = some ns → RepFs K G ds xs → xs = ns.map V.bl
  | [], _, _, h, r => by cases h; exact r
  | d :: ds, _, ns, h, ⟨x, r, h1, h2, h3⟩ => by
    cases d <;> first | (cases h; done) | skip
    obtain ⟨ms, hm, rfl⟩ := Option.map_eq_some_iff.mp h
    rw [h1, bls_rep hm h3, show x = _ from h2]; rfl
def gAll : W → Option W := fun u => (listD u).bind fun ds => (blsD ds).map fun ns => (0, .bl (ns.all id))
def gAny : W → Option W := fun u => (listD u).bind fun ds => (blsD ds).map fun ns => (0, .bl (ns.any id))
theorem g_all : Op1 K (fun x H Q => rAll K [x] H Q) gAll := by
  intro G H u x Fu w e ru hw
  obtain ⟨ds, hd, hw⟩ := Option.bind_eq_some_iff.mp hw
  obtain ⟨ns, hn, rfl⟩ := Option.map_eq_some_iff.mp hw
  obtain ⟨a, xs, rfl, h1, h2⟩ := list_rep e hd ru
  have := bls_rep hn h2
  subst this
  exact Res.pure (v := .bl _) e rfl fun Q q => ⟨a, ns, rfl, h1, q⟩
theorem g_any : Op1 K (fun x H Q => rAny K [x] H Q) gAny := by
  intro G H u x Fu w e ru hw
  obtain ⟨ds, hd, hw⟩ := Option.bind_eq_some_iff.mp hw
  obtain ⟨ns, hn, rfl⟩ := Option.map_eq_some_iff.mp hw
  obtain ⟨a, xs, rfl, h1, h2⟩ := list_rep e hd ru
  have := bls_rep hn h2
  subst this
  exact Res.pure (v := .bl _) e rfl fun Q q => ⟨a, ns, rfl, h1, q⟩
theorem e_all {p : Pos} (hc : X.calm = true) (hg : Gl X "all") (hm : X.mg "all" = none) (ha : OkE X a A) (hs : starEach (a :: []) X.env = (false, eval a X.env) :: starEach [] X.env := by rfl) : OkE X (.Call (.Name "all" p) [a] [] pos) (pCall (on1 gAll) (aCons A aNil)) :=
  e_bi (cr_all hc) (opN_1 g_all) hg hm (by rfl) (a_cons ha a_nil hs) (hs := hs)
theorem e_any {p : Pos} (hc : X.calm = true) (hg : Gl X "any") (hm : X.mg "any" = none) (ha : OkE X a A) (hs : starEach (a :: []) X.env = (false, eval a X.env) :: starEach [] X.env := by rfl) : OkE X (.Call (.Name "any" p) [a] [] pos) (pCall (on1 gAny) (aCons A aNil)) :=
  e_bi (cr_any hc) (opN_1 g_any) hg hm (by rfl) (a_cons ha a_nil hs) (hs := hs)
/-! ### tuple(x), list(x) -/
def gTupOf : W → Option W
  | (k, .lst ds) => if k ≤ 1 then some (0, .tup ds) else none
  | (_, .tup ds) => some (0, .tup ds)
  | (_, .ktp ds) => some (0, .ktp ds)
  | _ => none
theorem g_tupOf : Op1 K (fun x H Q => ∃ p ys, [x] = [.ref p] ∧ ((SqL K H p ys ∧ ∀ l, H l = none → Q (.ref l) (upd H l (.tup ys))) ∨ (SqT K H p ys ∧ Q (.ref p) H))) gTupOf := by
  intro G H u x Fu w e ru hw
  unfold gTupOf at hw; split at hw
  · split at hw
    · rename_i hk
      cases hw
      obtain ⟨a, xs, rfl, h1, h2⟩ := ru.lst1 e hk
      exact Res.tup e h2 fun Q q => ⟨a, xs, rfl, .inl ⟨SqL.of h1, q⟩⟩
    · cases hw
  · cases hw
    obtain ⟨a, xs, rfl, h1, h2⟩ := ru.tupE
    exact Res.pure e ⟨a, xs, rfl, h1, h2⟩ fun Q q => ⟨a, xs, rfl, .inr ⟨SqT.of (e _ _ h1), q⟩⟩
  · cases hw
    obtain ⟨a, xs, rfl, h1, h2⟩ := ru.ktp
    exact Res.pure e ⟨a, xs, rfl, h1, h2⟩ fun Q q => ⟨a, xs, rfl, .inr ⟨same_t e h1.sq, q⟩⟩
  · cases hw
theorem e_tupOf {p : Pos} (hg : Gl X "tuple") (hm : X.mg "tuple" = none) (ha : OkE X a A) (hs : starEach (a :: []) X.env = (false, eval a X.env) :: starEach [] X.env := by rfl) : OkE X (.Call (.Name "tuple" p) [a] [] pos) (pCall (on1 gTupOf) (aCons A aNil)) :=
  e_ty call_tuple_of (opN_1 g_tupOf) hg hm (by rfl) (a_cons ha a_nil hs) (hs := hs)
def gLstOf : W → Option W := fun u => (itemsD u).map fun ds => (1, .lst ds)
theorem g_lstOf : Op1 K (fun x H Q => ∃ p ys, [x] = [.ref p] ∧ (SqL K H p ys ∨ SqT K H p ys) ∧ ∀ l, H l = none → Q (.ref l) (upd H l (.lst ys))) gLstOf := by
  intro G H u x Fu w e ru hw
  obtain ⟨ds, hd, rfl⟩ := Option.map_eq_some_iff.mp hw
  obtain ⟨a, xs, rfl, h1, h2⟩ := items_rep e hd ru
  exact Res.lst e h2 fun Q q => ⟨a, xs, rfl, h1, q⟩
theorem e_lstOf {p : Pos} (hg : Gl X "list") (hm : X.mg "list" = none) (ha : OkE X a A) (hs : starEach (a :: []) X.env = (false, eval a X.env) :: starEach [] X.env := by rfl) : OkE X (.Call (.Name "list" p) [a] [] pos) (pCall (on1 gLstOf) (aCons A aNil)) :=
  e_ty call_list_of (opN_1 g_lstOf) hg hm (by rfl) (a_cons ha a_nil hs) (hs := hs)
end
end Pv
set_option Elab.async false
set_option linter.all false
set_option maxRecDepth 100000
/-! P13: dicts that are walked; sorted -/
namespace Pv
open PySem PySem.Spec PyProof.Rows L2
theorem PE.or {X : Cx} {e : Expr} {t t' : TE} (h : PE X e t) (h' : PE X e t') : PE X e fun σ H Q => t σ H Q ∨ t' σ H Q := ⟨fun pins s σ H Q I q => q.elim (h.run pins s σ H Q I) (h'.run pins s σ H Q I)⟩
theorem PS.or {X : Cx} {st : Stmt} {t t' : TS} (h : PS X st t) (h' : PS X st t') : PS X st fun D σ H => t D σ H ∨ t' D σ H := ⟨fun pins s σ H D I q => q.elim (h.run pins s σ H D I) (h'.run pins s σ H D I)⟩
/-- the same data are read -/
structure Sim (G G' : Hp) : Prop where
  tup : ∀ a xs, G a = some (.tup xs) → G' a = some (.tup xs)
  lst : ∀ a xs, G a = some (.lst xs) → G' a = some (.lst xs)
  ft : ∀ a od xs, G a = some (.frz od (.tup xs)) → G' a = some (.frz od (.tup xs))
  rl : ∀ a xs, Rd G a (.lst xs) → Rd G' a (.lst xs)
  rd : ∀ a t xs, Rd G a (hoD t xs) → Rd G' a (hoD t xs)
section
variable {X : Cx} {K : PySem.W.Frag} {G0 G G1 G' H H' : Hp} {σ : L2.St} {ρ : Env} {ws : List (V × Arg)} {F F1 F2 : List Addr} {e a b c tg : Expr} {es : List Expr} {pos : Pos} {A B C : Fe} {T : Fb} {f : Fs} {body : List Stmt}
mutual
theorem RepF.sim (S : Sim G G') : ∀ (d : D) (v : V), RepF K G d v → RepF K G' d v
  | .non, _, h => h
  | .bl _, _, h => h
  | .int _, _, h => h
  | .str _, _, h => h
  | .tup ds, _, ⟨a, xs, h1, h2, h3⟩ => ⟨a, xs, h1, S.tup _ _ h2, RepFs.sim S ds xs h3⟩
  | .ktp ds, _, ⟨a, xs, h1, h2, h3⟩ => ⟨a, xs, h1, h2.elim .inl fun ⟨od, q1, q2⟩ => .inr ⟨od, q1, S.ft _ _ _ q2⟩, RepFs.sim S ds xs h3⟩
  | .lst ds, _, ⟨a, xs, h1, h2, h3⟩ => ⟨a, xs, h1, S.lst _ _ h2, RepFs.sim S ds xs h3⟩
  | .dct t ds, _, ⟨a, xs, h1, h2, h4, h3⟩ => ⟨a, xs, h1, S.rd _ _ _ h2, h4, RepFk.sim S ds xs h3⟩
  | .scr ns, _, ⟨a, h1, h2⟩ => ⟨a, h1, h2.elim (fun z => .inl (S.rl _ _ z)) .inr⟩
theorem RepFs.sim (S : Sim G G') : ∀ (ds : List D) (xs : List V), RepFs K G ds xs → RepFs K G' ds xs
  | [], _, h => h
  | d :: ds, _, ⟨x, r, h1, h2, h3⟩ => ⟨x, r, h1, RepF.sim S d x h2, RepFs.sim S ds r h3⟩
theorem RepFk.sim (S : Sim G G') : ∀ (ds : List (List Key × D)) (xs : List (List Key × V)), RepFk K G ds xs → RepFk K G' ds xs
  | [], _, h => h
  | (_, d) :: ds, _, ⟨x, r, h1, h2, h3⟩ => ⟨x, r, h1, RepF.sim S d x h2, RepFk.sim S ds r h3⟩
end
theorem RO.sim (S : Sim G G') : ∀ (k : Nat) (d : D) (v : V) (F : List Addr), (∀ a ∈ F, H' a = H a) → RO K G H k d v F → RO K G' H' k d v F
  | 0, d, v, _, _, h => ⟨RepF.sim S d v h.1, h.2⟩
  | k + 1, .lst ds, _, F, f, ⟨a, xs, F', h1, h2, h3, h4⟩ => ⟨a, xs, F', h1, by rw [f a (by rw [h3]; exact List.mem_cons_self), h2], h3,
      ROs.imp ds xs F' (fun d v F1 s => RO.sim S k d v F1 fun b hb => f b (by rw [h3]; exact List.mem_cons_of_mem _ (s b hb))) h4⟩
  | k + 1, .dct t ds, _, F, f, ⟨a, xs, F', h1, h2, h5, h3, h4⟩ => ⟨a, xs, F', h1, by rw [f a (by rw [h3]; exact List.mem_cons_self), h2], h5, h3,
      ROk.imp ds xs F' (fun d v F1 s => RO.sim S k d v F1 fun b hb => f b (by rw [h3]; exact List.mem_cons_of_mem _ (s b hb))) h4⟩
  | k + 1, .non, v, _, _, h => h
  | k + 1, .bl _, v, _, _, h => h
  | k + 1, .int _, v, _, _, h => h
  | k + 1, .str _, v, _, _, h => h
  | k + 1, .tup ds, v, _, _, h => ⟨RepF.sim S (.tup ds) v h.1, h.2⟩
  | k + 1, .scr ns, v, _, _, h => ⟨RepF.sim S (.scr ns) v h.1, h.2⟩
  | k + 1, .ktp ds, v, _, _, h => ⟨RepF.sim S (.ktp ds) v h.1, h.2⟩
theorem RSl.sim (S : Sim G G') : ∀ (σ : L2.St) (ρ : Env) (F : List Addr), (∀ a ∈ F, H' a = H a) → RSl K G H σ ρ F → RSl K G' H' σ ρ F
  | [], [], _, _, h => h
  | _ :: _, [], _, _, h => h
  | [], none :: ρ, F, f, h => RSl.sim S [] ρ F f h
  | [], some _ :: _, _, _, h => h
  | _ :: σ, none :: ρ, F, f, h => RSl.sim S σ ρ F f h
  | s :: σ, some w :: ρ, F, f, ⟨v, F1, F2, h1, h2, h3, h4⟩ => ⟨v, F1, F2, h1, h2, RO.sim S _ _ _ F1 (fun a ha => f a (by rw [h2]; exact List.mem_append_left _ ha)) h3,
      RSl.sim S σ ρ F2 (fun a ha => f a (by rw [h2]; exact List.mem_append_right _ ha)) h4⟩
theorem RWs.sim (S : Sim G G') : ∀ (ws : List (V × Arg)) (F : List Addr), (∀ a ∈ F, H' a = H a) → RWs K G H σ ρ ws F → RWs K G' H' σ ρ ws F
  | [], _, _, h => h
  | (x, .v k d) :: ws, F, f, ⟨F1, F2, h2, h3, h4⟩ => ⟨F1, F2, h2, RO.sim S _ _ _ F1 (fun a ha => f a (by rw [h2]; exact List.mem_append_left _ ha)) h3,
      RWs.sim S ws F2 (fun a ha => f a (by rw [h2]; exact List.mem_append_right _ ha)) h4⟩
  | (x, .r i) :: ws, F, f, ⟨h1, h2, h3⟩ => ⟨h1, h2, RWs.sim S ws F f h3⟩
theorem hoD_ne_tup {t : Bool} {xs : List (List Key × V)} {ys : List V} : hoD t xs ≠ .tup ys := by cases t <;> intro h <;> cases h
theorem hoD_ne_lst {t : Bool} {xs : List (List Key × V)} {ys : List V} : hoD t xs ≠ .lst ys := by cases t <;> intro h <;> cases h
theorem hoD_ne_frz {t : Bool} {xs : List (List Key × V)} {o : Obj} {u : HO} : hoD t xs ≠ .frz o u := by cases t <;> intro h <;> cases h
theorem Sim.lock {p : Addr} {t : Bool} {xs : List (List Key × V)} {od : Obj} (h : G p = some (hoD t xs)) : Sim G (upd G p (.frz od (hoD t xs))) where
  tup := fun a ys q => by
    by_cases e : a = p
    · subst e; rw [h] at q; exact absurd (Option.some.inj q) hoD_ne_tup
    · rw [upd_ne e]; exact q
  lst := fun a ys q => by
    by_cases e : a = p
    · subst e; rw [h] at q; exact absurd (Option.some.inj q) hoD_ne_lst
    · rw [upd_ne e]; exact q
  ft := fun a od ys q => by
    by_cases e : a = p
    · subst e; rw [h] at q; exact absurd (Option.some.inj q) hoD_ne_frz
    · rw [upd_ne e]; exact q
  rl := fun a ys q => by
    by_cases e : a = p
    · subst e
      rcases q with q | ⟨o, q⟩
      · rw [h] at q; exact absurd (Option.some.inj q) hoD_ne_lst
      · rw [h] at q; exact absurd (Option.some.inj q) hoD_ne_frz
    · unfold Rd; rw [upd_ne e]; exact q
  rd := fun a t' ys q => by
    by_cases e : a = p
    · subst e
      rcases q with q | ⟨o, q⟩
      · rw [h] at q
        rw [← Option.some.inj q]
        exact .inr ⟨od, upd_same⟩
      · rw [h] at q; exact absurd (Option.some.inj q) hoD_ne_frz
    · unfold Rd; rw [upd_ne e]; exact q
theorem Sim.unlock {p : Addr} {t : Bool} {xs : List (List Key × V)} {od : Obj} (h : G p = some (.frz od (hoD t xs))) : Sim G (upd G p (hoD t xs)) where
  tup := fun a ys q => by
    by_cases e : a = p
    · subst e; rw [h] at q; cases q
    · rw [upd_ne e]; exact q
  lst := fun a ys q => by
    by_cases e : a = p
    · subst e; rw [h] at q; cases q
    · rw [upd_ne e]; exact q
  ft := fun a od ys q => by
    by_cases e : a = p
    · subst e
      rw [h] at q
      have := Option.some.inj q
      injection this with _ this
      exact absurd this hoD_ne_tup
    · rw [upd_ne e]; exact q
  rl := fun a ys q => by
    by_cases e : a = p
    · subst e
      rcases q with q | ⟨o, q⟩
      · rw [h] at q; cases q
      · rw [h] at q
        have := Option.some.inj q
        injection this with _ this
        exact absurd this hoD_ne_lst
    · unfold Rd; rw [upd_ne e]; exact q
  rd := fun a t' ys q => by
    by_cases e : a = p
    · subst e
      rcases q with q | ⟨o, q⟩
      · rw [h] at q
        exact absurd (Option.some.inj q).symm hoD_ne_frz
      · rw [h] at q
        have := Option.some.inj q
        injection this with _ this
        rw [this]
        exact .inl upd_same
    · unfold Rd; rw [upd_ne e]; exact q
theorem Si.lock {p : Addr} {t : Bool} {xs : List (List Key × V)} (I : Si K G0 σ ρ ws H G F1 F2) (h : G p = some (hoD t xs)) (od : Obj) : Si K (upd G p (.frz od (hoD t xs))) σ ρ ws (upd H p (.frz od (hoD t xs))) (upd G p (.frz od (hoD t xs))) F1 F2 := by
  have ne : ∀ a, a ∈ F1 ++ F2 → a ≠ p := fun a ha e => by
    subst e
    have := I.fr a ha
    rw [h] at this; cases this
  refine ⟨Same.refl _, fun b o q => ?_, RSl.sim (Sim.lock h) _ _ _ (fun a ha => upd_ne (ne a (List.mem_append_left _ ha))) I.sl, RWs.sim (Sim.lock h) _ _ (fun a ha => upd_ne (ne a (List.mem_append_right _ ha))) I.wv, I.nd, fun a ha => by rw [upd_ne (ne a ha)]; exact I.fr a ha, fun b o q1 q2 => ?_, I.ln⟩
  · by_cases e : b = p
    · subst e; rw [upd_same] at q ⊢; exact q
    · rw [upd_ne e] at q ⊢; exact I.ex b o q
  · by_cases e : b = p
    · subst e; rw [upd_same] at q1 ⊢; exact q1
    · rw [upd_ne e] at q1 ⊢; exact I.tu b o q1 q2
theorem Si.unlock {p : Addr} {t : Bool} {xs : List (List Key × V)} {od : Obj} (I : Si K G1 σ ρ ws H G F1 F2) (h1 : G1 p = some (.frz od (hoD t xs))) (h0 : ∀ b o, G0 b = some o → b = p ∧ o = hoD t xs ∨ b ≠ p ∧ G1 b = some o) :
    Si K G0 σ ρ ws (upd H p (hoD t xs)) (upd G p (hoD t xs)) F1 F2 := by
  have h : G p = some (.frz od (hoD t xs)) := I.ex0 _ _ h1
  have ne : ∀ a, a ∈ F1 ++ F2 → a ≠ p := fun a ha e => by
    subst e
    have := I.fr a ha
    rw [h] at this; cases this
  refine ⟨fun b o q => ?_, fun b o q => ?_, RSl.sim (Sim.unlock h) _ _ _ (fun a ha => upd_ne (ne a (List.mem_append_left _ ha))) I.sl, RWs.sim (Sim.unlock h) _ _ (fun a ha => upd_ne (ne a (List.mem_append_right _ ha))) I.wv, I.nd, fun a ha => by rw [upd_ne (ne a ha)]; exact I.fr a ha, fun b o q1 q2 => ?_, I.ln⟩
  · rcases h0 b o q with ⟨e1, e2⟩ | ⟨e1, e2⟩
    · subst e1 e2; exact upd_same
    · rw [upd_ne e1]; exact I.ex0 b o e2
  · by_cases e : b = p
    · subst e; rw [upd_same] at q ⊢; exact q
    · rw [upd_ne e] at q ⊢; exact I.ex b o q
  · by_cases e : b = p
    · subst e; rw [upd_same] at q1; cases q1; exact absurd (isOwn_hoD t xs) q2
    · rw [upd_ne e] at q1 ⊢; exact I.tu b o q1 q2
/-- the dict in slot i is locked -/
def LockAt (K : PySem.W.Frag) (i : Nat) (G : Hp) (σ : L2.St) (ρ : Env) : Prop := ∃ p od t xs kvs, σ[i]? = some (some (.ref p)) ∧ ρ[i]? = some (some (0, .dct t kvs)) ∧ G p = some (.frz od (hoD t xs)) ∧ keysOk t xs ∧ RepFk K G kvs xs
def tEZ (K : PySem.W.Frag) (Z : Hp → L2.St → Env → Prop) (f : Fe) : TE := fun σ H Q => ∃ G0 ρ ws a, SI K G0 σ ρ ws H ∧ Z G0 σ ρ ∧ f ρ = some a ∧ ∀ v H', SI K G0 σ ρ ((v, a) :: ws) H' → Q v H'
def tIcZ (K : PySem.W.Frag) (Z : Hp → L2.St → Env → Prop) (f : Fit) : L2.TI := fun σ H R => ∃ G0 ρ ws ds, SI K G0 σ ρ ws H ∧ Z G0 σ ρ ∧ f ρ = some ds ∧ ∀ J H' G1, Same G0 G1 → SI K G1 σ ρ ws H' → Items K J ds (fun G H => ∃ ws' F1 F2, Si K G1 σ ρ ws' H G F1 F2) → R J H'
def tIZ (K : PySem.W.Frag) (Z : Hp → L2.St → Env → Prop) (f : Fit) : L2.TI := fun σ H R => ∃ G0 ρ ds, SI K G0 σ ρ [] H ∧ Z G0 σ ρ ∧ f ρ = some ds ∧ ∀ J H' G1, Same G0 G1 → SI K G1 σ ρ [] H' → Items K J ds (fun G H => Same G1 G ∧ Same G H ∧ ∀ b o, H b = some o → ¬ isOwn o → G b = some o) → R J H'
/-- what a locked slot allows, the lock laid and taken off -/
theorem lockE_imp {i : Nat} {σ : L2.St} {H : Hp} {Q : VK} {f : Fe} (hs : ∀ ρ a, f ρ = some a → ∃ t kvs, ρ[i]? = some (some (0, .dct t kvs))) (h : tE K f σ H Q) : tLockE (tEZ K (LockAt K i) f) σ H Q ∨ tEZ K (LockAt K i) f σ H Q := by
  obtain ⟨G0, ρ, ws, a, ⟨G, F1, F2, J⟩, hf, q⟩ := h
  obtain ⟨t, kvs, hρ⟩ := hs ρ a hf
  obtain ⟨v, Fi, h1, ⟨h2, _⟩, _⟩ := J.sl.at hρ
  obtain ⟨p, xs, rfl, hr, ok, rk⟩ := h2
  rcases hr with hr | ⟨od, hr⟩
  · refine .inl ⟨p, hoD t xs, J.ex _ _ hr, by cases t <;> trivial, fun od => ⟨upd G p (.frz od (hoD t xs)), ρ, ws, a, (J.lock hr od).SI, ⟨p, od, t, xs, kvs, h1, hρ, upd_same, ok, RepFk.sim (Sim.lock hr) _ _ rk⟩, hf, fun v H' I' => ?_⟩⟩
    obtain ⟨G', F3, F4, J'⟩ := I'
    refine ⟨J'.ex _ _ (J'.ex0 _ _ upd_same), q v _ (J'.unlock upd_same fun b o q => ?_).SI⟩
    by_cases e : b = p
    · subst e
      have := J.ex0 _ _ q
      rw [hr] at this
      exact .inl ⟨rfl, (Option.some.inj this).symm⟩
    · exact .inr ⟨e, by rw [upd_ne e]; exact J.ex0 _ _ q⟩
  · exact .inr ⟨G, ρ, ws, a, J.up, ⟨p, od, t, xs, kvs, h1, hρ, hr, ok, rk⟩, hf, fun v H' I' => q v H' (I'.base J.ex0)⟩
def kD : Key → D
  | .inl i => .int i
  | .inr s => .str s
def keyDat : Bool → List Key → D
  | false, ks => kD (ks.headD (.inl 0))
  | true, ks => .tup (ks.map kD)
theorem kD_rep (k : Key) : RepF K G (kD k) (kV k) := by cases k <;> exact rfl
theorem kDs_rep : ∀ ks : List Key, RepFs K G (ks.map kD) (ks.map kV)
  | [] => rfl
  | k :: ks => ⟨_, _, rfl, kD_rep k, kDs_rep ks⟩
def iKeysF (i : Nat) : Fit := fun ρ => match (ρ[i]?).join with
  | some (0, .dct t kvs) => some (kvs.map fun p => keyDat t p.1)
  | _ => none
theorem RepFk.key : ∀ {kvs : List (List Key × D)} {xs : List (List Key × V)} {i : Nat} {k : List Key} {v : V}, RepFk K G kvs xs → xs[i]? = some (k, v) → ∃ d, kvs[i]? = some (k, d)
  | [], _, _, _, _, h, e => by rw [show _ = [] from h] at e; simp at e
  | (k', d') :: r, _, 0, k, v, ⟨x, xs, h1, h2, h3⟩, e => by subst h1; simp at e; exact ⟨d', by rw [e.1]; rfl⟩
  | (k', d') :: r, _, i + 1, k, v, ⟨x, xs, h1, h2, h3⟩, e => by
    subst h1
    obtain ⟨d, hd⟩ := RepFk.key h3 (by simpa using e)
    exact ⟨d, by simpa using hd⟩
def itKeys : Bool → Addr → Obj → List (List Key × V) → It
  | false, p, od, xs => Itk p od (xs.map fun p => (p.1.headD (.inl 0), p.2))
  | true, p, od, xs => Itkt p od xs
theorem Items.keys {p : Addr} {od : Obj} {t : Bool} {xs : List (List Key × V)} {kvs : List (List Key × D)} (h : G1 p = some (.frz od (hoD t xs))) (ok : keysOk t xs) (rk : RepFk K G1 kvs xs) :
    Items K (itKeys t p od xs) (kvs.map fun p => keyDat t p.1) (fun G H => Same G1 G ∧ Same G H ∧ ∀ b o, H b = some o → ¬ isOwn o → G b = some o) := by
  have hl := rk.len
  cases t with
  | false =>
    refine ⟨fun i G H hi ⟨e1, e2, _⟩ => ⟨e2 _ _ (e1 _ _ h), by simpa [hl] using hi⟩, fun G H ⟨e1, e2, _⟩ => ⟨e2 _ _ (e1 _ _ h), by simp [hl]⟩, fun i G H x H' hi ⟨e1, e2, _⟩ ⟨hy, k, v, hk, hx⟩ => ?_⟩
    subst hy hx
    rw [List.getElem?_map] at hk
    obtain ⟨⟨ks, v'⟩, hq, he⟩ := Option.map_eq_some_iff.mp hk
    cases he
    obtain ⟨d, hd⟩ := rk.key hq
    refine ⟨G, kD (ks.headD (.inl 0)), Grow.refl e2, by rw [List.getElem?_map, hd]; rfl, kD_rep _⟩
  | true =>
    refine ⟨fun i G H hi ⟨e1, e2, _⟩ => ⟨e2 _ _ (e1 _ _ h), by simpa [hl] using hi⟩, fun G H ⟨e1, e2, _⟩ => ⟨e2 _ _ (e1 _ _ h), by simp [hl]⟩, fun i G H x H' hi ⟨e1, e2, e3⟩ ⟨hy, k, v, q, hk, hx, hq⟩ => ?_⟩
    subst hy hx
    obtain ⟨d, hd⟩ := rk.key hk
    exact ⟨G, .tup (k.map kD), Grow.refl e2, by rw [List.getElem?_map, hd]; rfl, q, _, rfl, e3 _ _ hq (fun z => z), kDs_rep k⟩
theorem keys_core {σ : L2.St} {H : Hp} {i : Nat} {p : Addr} {od : Obj} {t : Bool} {xs : List (List Key × V)} {R : It → Hp → Prop} (e : Same G1 H) (h : G1 p = some (.frz od (hoD t xs))) (h1 : σ[i]? = some (some (.ref p)))
    (q : R (itKeys t p od xs) H) : iKeys (tVar i) σ H R := by
  refine ⟨.ref p, h1, p, od, rfl, ?_⟩
  cases t with
  | false => exact .inl ⟨_, e _ _ h, q⟩
  | true => exact .inr ⟨_, e _ _ h, q⟩
theorem c_keys {i : Nat} (he : PE X e (tVar i)) : PI X tg e (tIcZ X.K (LockAt X.K i) (iKeysF i)) := PI.imp (pi_keys he) fun σ H R ⟨G0, ρ, ws, ds, I, ⟨p, od, t, xs, kvs, h1, hρ, hg, ok, rk⟩, hf, q⟩ => by
  obtain ⟨G, F1, F2, J⟩ := I
  unfold iKeysF at hf
  rw [hρ] at hf
  cases hf
  refine keys_core (t := t) (xs := xs) (J.ex0.trans J.ex) hg h1 (q (itKeys t p od xs) H G0 (Same.refl _) J.SI ((Items.keys hg ok rk).mono fun G H ⟨_, _, _, I⟩ => ⟨I.ex0, I.ex, I.tu⟩))
theorem i_keys {i : Nat} (he : PE X e (tVar i)) : PI X tg e (tIZ X.K (LockAt X.K i) (iKeysF i)) := PI.imp (pi_keys he) fun σ H R ⟨G0, ρ, ds, I, ⟨p, od, t, xs, kvs, h1, hρ, hg, ok, rk⟩, hf, q⟩ => by
  obtain ⟨G, F1, F2, J⟩ := I
  unfold iKeysF at hf
  rw [hρ] at hf
  cases hf
  exact keys_core (t := t) (xs := xs) (J.ex0.trans J.ex) hg h1 (q (itKeys t p od xs) H G0 (Same.refl _) J.SI (Items.keys hg ok rk))
theorem lcZ_imp {Z : Hp → L2.St → Env → Prop} {j : Nat} {it : Fit} {t : Tg} {vs : List Nat} (hsub : ∀ i ∈ slotsT t, i ∈ vs) (σ : L2.St) (H : Hp) (Q : VK) (h : tEZ K Z (pLc j it t vs T A) σ H Q) : tLc (tIcZ K Z it) (tG K t) (tT K T) (tE K A) vs σ H Q := by
  obtain ⟨G0, ρ, ws, a, I, hZ, hf, q⟩ := h
  unfold pLc at hf
  split at hf
  · rename_i hv
    obtain ⟨ds, hds, hf⟩ := Option.bind_eq_some_iff.mp hf
    split at hf
    · rename_i hbig
      obtain ⟨out, ho, rfl⟩ := Option.map_eq_some_iff.mp hf
      have hv' : ∀ v ∈ vs, plain0 ρ[v]? := fun v hm => lvl0_plain (List.all_eq_true.mp hv v hm)
      refine ⟨G0, ρ, ws, ds, I, hZ, hds, fun J H1 G1 e01 I1 items Dl hD => ?_⟩
      refine ⟨fun i m H => m = ds.length - i ∧ i ≤ ds.length ∧ ∃ acc rest, SI K G1 σ ρ ((.ref Dl, .v (j + 1) (.lst acc)) :: ws) H ∧ compL t T A j (wipeE ρ vs) (ds.drop i) = some rest ∧ acc ++ rest = out ∧ acc.length ≤ i, ⟨ds.length, by simp, Nat.zero_le _, [], out, ?_, ho, rfl, Nat.le_refl _⟩, ?_⟩
      · obtain ⟨G, F1, F2, S⟩ := I1
        have g := Grow.newO (o := .lst []) S.ex hD trivial
        exact (S.push (k := j + 1) (d := .lst []) g ⟨Dl, [], [], rfl, upd_same, rfl, rfl, rfl⟩).SI
      · rintro i m H2 ⟨rfl, hi, acc, rest, I2, hc, hout, hacc⟩
        by_cases hlt : i < ds.length
        · obtain ⟨G, F1, F2, S⟩ := I2
          refine .inr ⟨items.goes i G H2 hlt ⟨_, _, _, S⟩, ?_⟩
          rw [List.drop_eq_getElem_cons hlt] at hc
          obtain ⟨ρ1, hb1, hc⟩ := Option.bind_eq_some_iff.mp hc
          obtain ⟨b, hT, hc⟩ := Option.bind_eq_some_iff.mp hc
          refine ⟨fun H => ∃ acc rest, SI K G1 σ ρ ((.ref Dl, .v (j + 1) (.lst acc)) :: ws) H ∧ compL t T A j (wipeE ρ vs) (ds.drop (i + 1)) = some rest ∧ acc ++ rest = out ∧ acc.length ≤ i + 1, fun H' ⟨acc, rest, h1, h2, h3, h4⟩ => ⟨ds.length - (i + 1), by omega, rfl, hlt, acc, rest, h1, h2, h3, h4⟩, fun x H' y => ?_⟩
          obtain ⟨G', d, gr, hd, rd⟩ := items.yields i G H2 x H' hlt ⟨_, _, _, S⟩ y
          have ed : d = ds[i] := by rw [List.getElem?_eq_getElem hlt] at hd; exact (Option.some.inj hd).symm
          subst ed
          have S3 := S.grow gr
          -- within the block
          have Sw : Si K G' (wipe σ vs) (wipeE ρ vs) ((.ref Dl, .v (j + 1) (.lst acc)) :: strip ws) H' G' F1 F2 :=
            ⟨Same.refl _, S3.ex, RSl.wiped σ ρ F1 S3.sl S3.ln hv', by exact RWs.strip (ws := (.ref Dl, .v (j + 1) (.lst acc)) :: ws) S3.wv, S3.nd, S3.fr, S3.tu, by rw [wipe_length, wipeE_len]; exact S3.ln⟩
          obtain ⟨b1, b2, b3⟩ := bindT_but t (0, ds[i]) _ ρ1 hb1
          have hl1 : ρ1.length = ρ.length := by rw [b1, wipeE_len]
          have p1 : ∀ k ∈ vs, plain0 ρ[k]? ∧ plain0 ρ1[k]? := fun k hk => ⟨hv' k hk, b3 rfl k (wipeE_in hk)⟩
          refine ⟨G', wipeE ρ vs, (.ref Dl, .v (j + 1) (.lst acc)) :: strip ws, 0, ds[i], ρ1, noRef_strip ws, (Sw.pushF rd).SI, hb1, fun σ' but I' => ⟨wipe_but but hsub, G', ρ1, _, b, I', hT, fun H3 I3 => ?_⟩⟩
          have hl2 : σ'.length = σ.length := by rw [but.1, wipe_length]
          have p2 : ∀ k, k ∉ vs → ρ1[k]? = ρ[k]? ∧ σ'[k]? = σ[k]? := fun k hk => ⟨by rw [b2 k (fun z => hk (hsub k z)), wipeE_out hk], by rw [but.2 k (fun z => hk (hsub k z)), wipe_out hk]⟩
          cases b with
          | false =>
            rw [if_neg Bool.false_ne_true] at hc
            refine iteF ?_
            obtain ⟨G5, F5, F6, S5⟩ := I3
            have S6 := Si.unwipe (pre := []) (ws := (.ref Dl, .v (j + 1) (.lst acc)) :: ws) S3 S5 rfl hl1 hl2 p1 p2
            exact ⟨acc, rest, S6.SI, hc, hout, Nat.le_succ_of_le hacc⟩
          | true =>
            rw [if_pos rfl] at hc
            refine iteT ?_
            obtain ⟨a, hA, hc⟩ := Option.bind_eq_some_iff.mp hc
            cases a with
            | r n => cases hc
            | v k xd =>
              simp only at hc
              split at hc
              · rename_i hlv
                obtain ⟨rest', hr', rfl⟩ := Option.map_eq_some_iff.mp hc
                refine ⟨G', ρ1, _, _, I3, hA, fun y4 H4 I4 => ?_⟩
                obtain ⟨G5, F5, F6, S5⟩ := I4
                have S6 := Si.unwipe (pre := [(y4, .v k xd)]) (ws := (.ref Dl, .v (j + 1) (.lst acc)) :: ws) S3 S5 rfl hl1 hl2 p1 p2
                obtain ⟨xs, hx1, hx2, hx3⟩ := Si.addItem hlv S6
                refine ⟨xs, hx1, ?_, acc ++ [xd], rest', hx3, hr', by rw [List.append_assoc]; exact hout, by rw [List.length_append]; exact Nat.succ_le_succ hacc⟩
                rw [hx2]
                exact big_lt (by omega)
              · cases hc
        · have ei : i = ds.length := by omega
          subst ei
          rw [List.drop_length] at hc
          cases hc
          rw [List.append_nil] at hout
          subst hout
          obtain ⟨G, F1, F2, S⟩ := I2
          exact .inl ⟨items.stops G H2 ⟨_, _, _, S⟩, q _ H2 (S.SI.base e01)⟩
    · cases hf
  · cases hf
/-- [.. for x in d ..], d a dict in slot i -/
def pLcD (i j : Nat) (t : Tg) (vs : List Nat) (T : Fb) (A : Fe) : Fe := fun ρ => match (ρ[i]?).join with
  | some (0, .dct _ _) => pLc j (iKeysF i) t vs T A ρ
  | _ => none
theorem lcD_slot {i j : Nat} {t : Tg} {vs : List Nat} (ρ : Env) (a : Arg) (h : pLcD i j t vs T A ρ = some a) : ∃ t kvs, ρ[i]? = some (some (0, .dct t kvs)) := by
  unfold pLcD at h
  split at h
  · rename_i t' kvs hj
    exact ⟨t', kvs, join_some hj⟩
  · cases h
theorem lcD_pLc {i j : Nat} {t : Tg} {vs : List Nat} (ρ : Env) (a : Arg) (h : pLcD i j t vs T A ρ = some a) : pLc j (iKeysF i) t vs T A ρ = some a := by
  unfold pLcD at h
  split at h
  · exact h
  · cases h
theorem e_lcD {i j : Nat} {x : Str} {p : Pos} {t : Tg} {elt tg : Expr} {ifs : List Expr} {scope : Scope} {own : List (Str × Nat)} (hc : X.calm = true) (hN : X.N.Nodup) (ok : BlkOk X.N X.env.scope scope own)
    (hg : ∀ (s : Shared) (H : Hp) (C : Addr) (cl : List (Str × Addr)) (fp : List Addr), OkG (X.blk s H scope (compEnvC scope cl C X.env) fp) tg t) (ht : ∀ (s : Shared) (H : Hp) (C : Addr) (cl : List (Str × Addr)) (fp : List Addr), OkTs (X.blk s H scope (compEnvC scope cl C X.env) fp) ifs T)
    (he : ∀ (s : Shared) (H : Hp) (C : Addr) (cl : List (Str × Addr)) (fp : List Addr), OkE (X.blk s H scope (compEnvC scope cl C X.env) fp) elt A) (hx : X.N[i]? = some x := by rfl) (hv : Vis X.env.scope x := by first | exact Or.inl rfl | exact Or.inr (Or.inl rfl) | exact Or.inr (Or.inr rfl)) (hd : (x == ("__debug__" : Str)) = false := by decide)
    (hcd : (x == ("__classdict__" : Str)) = false := by decide) (hsub : ∀ i ∈ slotsT t, i ∈ own.map (·.2) := by decide) (hs : ∀ y, foldedSetIterable (.Name x p) X.env y = pure y := by exact fun _ => rfl) :
    OkE X (.ListComp elt [⟨tg, .Name x p, ifs, 0⟩] scope pos) (pLcD i j t (own.map (·.2)) T A) := by
  have h0 : PE X (.ListComp elt [⟨tg, .Name x p, ifs, 0⟩] scope pos) (tEZ X.K (LockAt X.K i) (pLcD i j t (own.map (·.2)) T A)) := PE.imp (pe_lc (g := tG X.K t) (tt := tT X.K T) (te := tE X.K A) hc hN (c_keys (pe_var hx hv hd hcd)) ok hg ht he hs) fun σ H Q ⟨G0, ρ, ws, a, I, hZ, hf, q⟩ =>
    lcZ_imp hsub σ H Q ⟨G0, ρ, ws, a, I, hZ, lcD_pLc ρ a hf, q⟩
  exact PE.imp (PE.or (pe_lock h0) h0) fun σ H Q h => lockE_imp lcD_slot h
def tSZ (K : PySem.W.Frag) (Z : Hp → L2.St → Env → Prop) (f : Fs) : TS := fun D σ H => ∃ G0 ρ fl ρ', SI K G0 σ ρ [] H ∧ Z G0 σ ρ ∧ f ρ = some (fl, ρ') ∧ Post K G0 D fl ρ'
theorem forZ {iter : Expr} {it : Fit} {t : Tg} {Z : Hp → L2.St → Env → Prop} (hp : PassesOwn (model X.prog X.w) X.A X.env X.xe) (hc : X.calm = true) (hi : PI X tg iter (tIZ X.K Z it)) (hg : OkG X tg t) (hb : OkB X body f) (hs : ∀ x, foldedSetIterable iter X.env x = pure x := by exact fun _ => rfl) :
    PS X (.For tg iter body [] pos) (tSZ X.K Z (sFor it t f)) := PS.imp (ps_for hp hc hi hg hb hs) fun D σ H ⟨G0, ρ, fl, ρ', I, hZ, hf, post⟩ => by
  obtain ⟨ds, hds, hf⟩ := Option.bind_eq_some_iff.mp hf
  refine ⟨G0, ρ, ds, I, hZ, hds, fun J H1 G1 e01 I1 it => ?_⟩
  refine ⟨fun i m σ H => m = ds.length - i ∧ i ≤ ds.length ∧ ∃ ρi, SI X.K G1 σ ρi [] H ∧ loopF t f (ds.drop i) ρi = some (fl, ρ'), ⟨ds.length, by simp, Nat.zero_le _, ρ, I1, hf⟩, ?_⟩
  rintro i m σ2 H2 ⟨rfl, hi, ρi, Ii, hl⟩
  by_cases hlt : i < ds.length
  · obtain ⟨G, F1, F2, J2⟩ := Ii
    refine .inr ⟨it.goes i G H2 hlt ⟨J2.ex0, J2.ex, J2.tu⟩, ?_⟩
    rw [List.drop_eq_getElem_cons hlt] at hl
    obtain ⟨ρ1, hb1, hl⟩ := Option.bind_eq_some_iff.mp hl
    obtain ⟨⟨fl1, ρ2⟩, hb2, hl⟩ := Option.bind_eq_some_iff.mp hl
    refine ⟨fun σ H => ∃ ρi, SI X.K G1 σ ρi [] H ∧ loopF t f (ds.drop (i + 1)) ρi = some (fl, ρ'), fun σ' H' ⟨ρi, h1, h2⟩ => ⟨ds.length - (i + 1), by omega, rfl, hlt, ρi, h1, h2⟩, fun x H' y => ?_⟩
    obtain ⟨G', d, gr, hd, rd⟩ := it.yields i G H2 x H' hlt ⟨J2.ex0, J2.ex, J2.tu⟩ y
    have ed : d = ds[i] := by rw [List.getElem?_eq_getElem hlt] at hd; exact (Option.some.inj hd).symm
    subst ed
    have J3 := (J2.grow gr).pushF rd
    refine ⟨G1, ρi, [], 0, ds[i], ρ1, rfl, J3.SI, hb1, fun σ' _ I' => ⟨G1, ρ1, fl1, ρ2, I', hb2, ?_⟩⟩
    cases fl1 with
    | nx => exact fun σ H I => ⟨ρ2, I, hl⟩
    | ct => exact fun σ H I => ⟨ρ2, I, hl⟩
    | bk => cases hl; exact fun σ H I => post σ H (I.base e01)
    | rt w => cases hl; exact fun v H r => post v H (r.base e01)
  · have ei : i = ds.length := by omega
    subst ei
    rw [List.drop_length] at hl
    cases hl
    obtain ⟨G, F1, F2, J2⟩ := Ii
    exact .inl ⟨it.stops G H2 ⟨J2.ex0, J2.ex, J2.tu⟩, post σ2 H2 (J2.SI.base e01)⟩
/-- for x in d: .., d a dict in slot i -/
def sForD (i : Nat) (t : Tg) (f : Fs) : Fs := fun ρ => match (ρ[i]?).join with
  | some (0, .dct _ _) => sFor (iKeysF i) t f ρ
  | _ => none
theorem lockS_imp {i : Nat} {σ : L2.St} {H : Hp} {D : Ends} {f : Fs} (hs : ∀ ρ a, f ρ = some a → ∃ t kvs, ρ[i]? = some (some (0, .dct t kvs))) (h : tS K f D σ H) : tLock (tSZ K (LockAt K i) f) D σ H ∨ tSZ K (LockAt K i) f D σ H := by
  obtain ⟨G0, ρ, fl, ρ', ⟨G, F1, F2, J⟩, hf, post⟩ := h
  obtain ⟨t, kvs, hρ⟩ := hs ρ _ hf
  obtain ⟨v, Fi, h1, ⟨h2, _⟩, _⟩ := J.sl.at hρ
  obtain ⟨p, xs, rfl, hr, ok, rk⟩ := h2
  rcases hr with hr | ⟨od, hr⟩
  · refine .inl ⟨p, hoD t xs, J.ex _ _ hr, by cases t <;> trivial, fun od => ⟨upd G p (.frz od (hoD t xs)), ρ, fl, ρ', (J.lock hr od).SI, ⟨p, od, t, xs, kvs, h1, hρ, upd_same, ok, RepFk.sim (Sim.lock hr) _ _ rk⟩, hf, ?_⟩⟩
    have h0 : ∀ b o, G0 b = some o → b = p ∧ o = hoD t xs ∨ b ≠ p ∧ upd G p (.frz od (hoD t xs)) b = some o := fun b o q => by
      by_cases e : b = p
      · subst e
        have := J.ex0 _ _ q
        rw [hr] at this
        exact .inl ⟨rfl, (Option.some.inj this).symm⟩
      · exact .inr ⟨e, by rw [upd_ne e]; exact J.ex0 _ _ q⟩
    have go : ∀ (N : L2.St → Hp → Prop), (∀ σ H, SI K G0 σ ρ' [] H → N σ H) → ∀ σ H, SI K (upd G p (.frz od (hoD t xs))) σ ρ' [] H → H p = some (.frz od (hoD t xs)) ∧ N σ (upd H p (hoD t xs)) := fun N hN σ H I' => by
      obtain ⟨G', F3, F4, J'⟩ := I'
      exact ⟨J'.ex _ _ (J'.ex0 _ _ upd_same), hN _ _ (J'.unlock upd_same h0).SI⟩
    cases fl with
    | nx => exact go _ post
    | bk => exact go _ post
    | ct => exact go _ post
    | rt w =>
      intro v H' ⟨G', F, e1, e2, r, nd, fr, tu⟩
      have hp : G' p = some (.frz od (hoD t xs)) := e1 _ _ upd_same
      have ne : ∀ a ∈ F, a ≠ p := fun a ha e => by
        subst e
        have := fr a ha
        rw [hp] at this; cases this
      refine ⟨e2 _ _ hp, post _ _ ⟨upd G' p (hoD t xs), F, fun b o q => ?_, fun b o q => ?_, RO.sim (Sim.unlock hp) _ _ _ F (fun a ha => upd_ne (ne a ha)) r, nd, fun a ha => by rw [upd_ne (ne a ha)]; exact fr a ha, fun b o q1 q2 => ?_⟩⟩
      · rcases h0 b o q with ⟨e3, e4⟩ | ⟨e3, e4⟩
        · subst e3 e4; exact upd_same
        · rw [upd_ne e3]; exact e1 b o e4
      · by_cases e : b = p
        · subst e; rw [upd_same] at q ⊢; exact q
        · rw [upd_ne e] at q ⊢; exact e2 b o q
      · by_cases e : b = p
        · subst e; rw [upd_same] at q1; cases q1; exact absurd (isOwn_hoD t xs) q2
        · rw [upd_ne e] at q1 ⊢; exact tu b o q1 q2
  · refine .inr ⟨G, ρ, fl, ρ', J.up, ⟨p, od, t, xs, kvs, h1, hρ, hr, ok, rk⟩, hf, ?_⟩
    cases fl with
    | nx => exact fun σ H I => post σ H (I.base J.ex0)
    | bk => exact fun σ H I => post σ H (I.base J.ex0)
    | ct => exact fun σ H I => post σ H (I.base J.ex0)
    | rt w => exact fun v H r => post v H (r.base J.ex0)
theorem s_forD {i : Nat} {x : Str} {p : Pos} {t : Tg} (hp : PassesOwn (model X.prog X.w) X.A X.env X.xe) (hc : X.calm = true) (hg : OkG X tg t) (hb : OkB X body f) (hx : X.N[i]? = some x := by rfl) (hv : Vis X.env.scope x := by first | exact Or.inl rfl | exact Or.inr (Or.inl rfl) | exact Or.inr (Or.inr rfl)) (hd : (x == ("__debug__" : Str)) = false := by decide)
    (hcd : (x == ("__classdict__" : Str)) = false := by decide) (hs : ∀ y, foldedSetIterable (.Name x p) X.env y = pure y := by exact fun _ => rfl) : OkS X (.For tg (.Name x p) body [] pos) (sForD i t f) := by
  have h0 : PS X (.For tg (.Name x p) body [] pos) (tSZ X.K (LockAt X.K i) (sForD i t f)) := PS.imp (forZ (t := t) hp hc (i_keys (pe_var hx hv hd hcd)) hg hb hs) fun D σ H ⟨G0, ρ, fl, ρ', I, hZ, hf, post⟩ => by
    refine ⟨G0, ρ, fl, ρ', I, hZ, ?_, post⟩
    unfold sForD at hf
    split at hf
    · exact hf
    · cases hf
  refine PS.imp (PS.or (ps_lock h0) h0) fun D σ H h => lockS_imp (fun ρ a h => ?_) h
  unfold sForD at h
  split at h
  · rename_i t' kvs hj
    exact ⟨t', kvs, join_some hj⟩
  · cases h
end
end Pv
set_option Elab.async false
set_option linter.all false
set_option maxRecDepth 100000
/-! P14: sorted -/
namespace Pv
open PySem PySem.Spec PyProof.Rows L2 PySem.W
def encD (d : D) : PyData := (toPy d).getD .none
def isTupNE : PyData → Bool
  | .tuple (_ :: _) => true
  | _ => false
def notTup : PyData → Bool
  | .tuple _ => false
  | .none => false
  | _ => true
def okSort (ps : List PyData) : Bool := (ps.all fun p => decide (p.depth ≤ 60) && ps.all fun q => alike p q) && (ps.all isTupNE || ps.all notTup)
def leD : D → D → Bool := dataLe false encD
section
variable {X : Cx} {K : PySem.W.Frag} {G0 G G1 G' H H' : Hp} {σ : L2.St} {ρ : Env} {ws : List (V × Arg)} {F F1 F2 : List Addr} {e a b c tg : Expr} {es : List Expr} {pos : Pos} {A B C : Fe}
theorem okSort_alike {ps : List PyData} (h : okSort ps = true) : AllAlike ps := fun p hp q hq => by
  unfold okSort at h
  rw [Bool.and_eq_true] at h
  have := List.all_eq_true.mp h.1 p hp
  rw [Bool.and_eq_true] at this
  exact List.all_eq_true.mp this.2 q hq
theorem okSort_depth {ps : List PyData} (h : okSort ps = true) {p : PyData} (hp : p ∈ ps) : p.depth ≤ 60 := by
  unfold okSort at h
  rw [Bool.and_eq_true] at h
  have := List.all_eq_true.mp h.1 p hp
  rw [Bool.and_eq_true] at this
  exact of_decide_eq_true this.1
theorem okSort_kind {ps : List PyData} (h : okSort ps = true) : Sortable ps := by
  unfold okSort at h
  rw [Bool.and_eq_true, Bool.or_eq_true] at h
  rcases h.2 with h | h
  · refine .inl fun d hd => ?_
    have := List.all_eq_true.mp h d hd
    unfold isTupNE at this
    split at this
    · exact ⟨_, _, rfl⟩
    · cases this
  · refine .inr fun d hd => ?_
    have := List.all_eq_true.mp h d hd
    unfold notTup at this
    split at this
    · cases this
    · cases this
    · rename_i h1 h2
      exact ⟨fun z => h2 z, fun xs z => h1 xs z⟩
theorem encD_of {d : D} {p : PyData} (h : toPy d = some p) : encD d = p := by unfold encD; rw [h]; rfl
theorem toPys_enc : ∀ {ds : List D} {ps : List PyData}, toPys ds = some ps → ps = ds.map encD ∧ ∀ d ∈ ds, toPy d = some (encD d)
  | [], _, h => by cases h; exact ⟨rfl, fun d hd => by cases hd⟩
  | d :: ds, _, h => by
    obtain ⟨p, hp, h⟩ := Option.bind_eq_some_iff.mp h
    obtain ⟨qs, hq, rfl⟩ := Option.map_eq_some_iff.mp h
    obtain ⟨h1, h2⟩ := toPys_enc hq
    refine ⟨by rw [List.map_cons, encD_of hp, ← h1], fun d' hd => ?_⟩
    rcases List.mem_cons.mp hd with rfl | hd
    · rw [encD_of hp]; exact hp
    · exact h2 d' hd
/-- a value that stands for data -/
def Std (K : PySem.W.Frag) (G : Hp) (u : Value) (d : D) : Prop := ∃ x, RepF K G d x ∧ RelV x u
theorem std_of : ∀ {ds : List D} {xs : List V} {us : List Value}, RepFs K G ds xs → Vals xs us → EachIs (Std K G) us ds
  | [], _, us, r, v => by
    rw [show _ = [] from r] at v
    cases v
    exact .nil
  | d :: ds, _, us, ⟨x, xs, h1, h2, h3⟩, v => by
    subst h1
    cases v with
    | cons r t => exact .cons ⟨x, h2, r⟩ (std_of h3 t)
theorem of_std : ∀ {ds : List D} {us : List Value}, EachIs (Std K G) us ds → ∃ xs, RepFs K G ds xs ∧ Vals xs us
  | _, _, .nil => ⟨[], rfl, .nil⟩
  | _, _, .cons ⟨x, h1, h2⟩ t => by
    obtain ⟨xs, h3, h4⟩ := of_std t
    exact ⟨x :: xs, ⟨x, xs, rfl, h1, h3⟩, .cons h2 h4⟩
theorem std_reads {pins : List (Addr × Obj)} {s : Shared} (I : Inv X pins σ H s) (e : Same G H) : ∀ {ds : List D} {us : List Value}, (∀ d ∈ ds, toPy d = some (encD d)) → EachIs (Std X.K G) us ds → EachIs (fun v b => ∃ as, Reads s.heap v (encD b) as) us ds
  | _, _, _, .nil => .nil
  | d :: ds, _, h, .cons ⟨x, h1, h2⟩ t => .cons (Dp.reads I _ x _ (dp_of e d _ x (h d List.mem_cons_self) h1) h2) (std_reads I e (fun d' hd => h d' (List.mem_cons_of_mem _ hd)) t)
def rSortedG (K : PySem.W.Frag) : List V → Hp → VK → Prop := fun vs H Q => ∃ (G : Hp) (ds : List D) (ps : List PyData) (a : Addr) (xs : List V), vs = [V.ref a] ∧ Same G H ∧ SqL K H a xs ∧ RepFs K G ds xs ∧ toPys ds = some ps ∧ okSort ps = true ∧ ds.length ≤ big ∧
  ∀ p ys, H p = none → RepFs K G (ds.mergeSort leD) ys → Q (.ref p) (upd H p (.lst ys))
theorem cr_sortedG (hu : X.A.units + 64 < cLine) : CallR X (.builtin "sorted") (rSortedG X.K) := by
  intro pins s σ H vs us Q I r h
  obtain ⟨G, ds, ps, a, xs, rfl, e, hs, hr, hp, ok, hz, q⟩ := h
  obtain ⟨its, rv, hl, _⟩ := I.list hs
  rw [Vals.ref1 r]
  obtain ⟨h1, h2⟩ := toPys_enc hp
  subst h1
  have est := std_of hr rv
  refine sorted_data (enc := encD) hl.isList est (std_reads I e h2 est) (okSort_alike ok) (okSort_kind ok) (big_line hz) (fun b hb => ?_) fun out ho hst => ?_
  · have := okSort_depth ok (List.mem_map.mpr ⟨b, hb, rfl⟩)
    omega
  · obtain ⟨ys, hy1, hy2⟩ := of_std hst
    obtain ⟨ep, he'⟩ := sortedAll_at s.heap its (List.toArray out)
    refine ⟨.ref (s.heap.objs.size + 1), upd H (s.heap.objs.size + 1) (.lst ys), I.laid (t' := s.toks) (fun b u q => sortedAll_old q) (Nat.le_succ _) ⟨?_, out, ep, hy2, he'⟩, rfl, q _ ys (I.hok.fresh (Nat.le_succ _)) hy1⟩
    rw [hy2.length, ho]
    exact big_line hz
def sortD (ds : List D) : Option W := (toPys ds).bind fun ps => if okSort ps = true ∧ ds.length ≤ big then some (1, .lst (ds.mergeSort leD)) else none
def gSorted : W → Option W := fun u => (listD u).bind sortD
theorem g_sorted : Op1 K (fun x H Q => rSortedG K [x] H Q) gSorted := by
  intro G H u x Fu w e ru hw
  obtain ⟨ds, hd, hw⟩ := Option.bind_eq_some_iff.mp hw
  obtain ⟨ps, hp, hw⟩ := Option.bind_eq_some_iff.mp hw
  split at hw
  · rename_i ok
    cases hw
    obtain ⟨a, xs, rfl, h1, h2⟩ := list_rep e hd ru
    refine fun Q q => ⟨G, ds, ps, a, xs, rfl, e, h1, h2, hp, ok.1, ok.2, fun p ys hp' hy => ?_⟩
    have g := Grow.newO (o := .lst ys) e hp' trivial
    exact q _ _ _ [p] g ⟨p, ys, [], rfl, upd_same, rfl, ROs.of_F hy⟩
  · cases hw
theorem e_sorted {p : Pos} (hu : X.A.units + 64 < cLine) (hg : Gl X "sorted") (hm : X.mg "sorted" = none) (ha : OkE X a A) (hs : starEach (a :: []) X.env = (false, eval a X.env) :: starEach [] X.env := by rfl) : OkE X (.Call (.Name "sorted" p) [a] [] pos) (pCall (on1 gSorted) (aCons A aNil)) :=
  e_bi (cr_sortedG hu) (opN_1 g_sorted) hg hm (by rfl) (a_cons ha a_nil hs) (hs := hs)
/-! ### sorted(d) -/
/-- the keys of a dict, as they lie -/
theorem kdlR {prog : Program} {w : World} {d : Addr} {o : Obj} {es : Array DictEntry} {ep : Nat} (lo : (d == sysModules) = false) (hc : o.ExactDict) (hd : o.data = .dict es ep) :
    KdlSrc prog w "dict" d d es.size (fun i v => ∃ en, es[i]? = some en ∧ v = en.key) (fun h => h.get? d = some o) where
  type := fun s h => ⟨o, h, hc.1⟩
  there := fun h e => ⟨Heap.lt_size e, Heap.lt_size e⟩
  keep := fun h h' e k => k d (.inl rfl) o e
  notList := by decide
  notTuple := by decide
  hint := fun A E s Q h hq => kdl_hint_dict ⟨o, h, hc.1⟩ hq
  iter := fun A s hh h => by
    refine ⟨_, fun i hp => hp.IsKeyIter s.heap.objs.size d i es.size ep ∧ hp.get? d = some o, fun E Q hq => iter_keys lo h hc hd hq, ?_, ⟨⟨_, Heap.get?_push_size _ rfl, rfl, rfl⟩, Heap.get?_push_of_some _ h⟩⟩
    have hne : d ≠ s.heap.objs.size := Nat.ne_of_lt (Heap.lt_size h)
    exact
      { sub := fun b hb => by simp at hb; simp [hb]
        frame := fun i h h' st k => ⟨st.1.at fun oi e => k _ (by simp) oi e, k d (by simp) o st.2⟩
        item := fun i s' Q E hi st hQ => by
          have hen : es[i]? = some es[i] := Array.getElem?_eq_getElem hi
          refine next_key_item st.1 st.2 hd rfl hen fun h' st' sb => ?_
          exact hQ _ h' s'.toks ⟨_, hen, rfl⟩ ⟨st', (sb.2 d hne).trans st.2⟩ fun b ob hb e => (sb.2 b (fun z => hb (by simp [z]))).trans e
        done := fun s' Q E st hQ => next_key_end hh st.1 st.2 hd rfl (Nat.le_refl _) fun h' eb => hQ h' s'.toks fun b ob hb e => eb b ob (fun z => hb (by simp [z])) e
        self := fun i s' Q E st hQ => wpAny_pyIter_keyiter st.1 hQ }
theorem pairs_key {κ : Type} [DecidableEq κ] {P : Program} {w : World} {knd : KeyKind P w κ} : ∀ {es : List DictEntry} {vs : List (κ × Value)}, Pairs knd es vs → ∀ {i : Nat} {k : κ} {u : Value}, vs[i]? = some (k, u) → ∃ en, es[i]? = some en ∧ knd.is k en.key = true ∧ en.val = u
  | _, _, .nil, i, k, u, h => by simp at h
  | _, _, .cons (e := en) h1 h2 t, 0, k, u, h => by
    simp at h
    subst h
    exact ⟨en, rfl, h1, h2⟩
  | _, _, .cons h1 h2 t, i + 1, k, u, h => by
    obtain ⟨en, q1, q2⟩ := pairs_key t (by simpa using h)
    exact ⟨en, by simpa using q1, q2⟩
/-- a key as it lies -/
def KeyAt (H : Hp) : Bool → List Key → Value → Prop
  | false, k, u => RelV (kV (k.headD (.inl 0))) u
  | true, k, u => ∃ q, u = .ref q ∧ H q = some (.tup (k.map kV))
/-- what lies at a dict -/
theorem dict_raw {pins : List (Addr × Obj)} {s : Shared} {d : Addr} {t : Bool} {xs : List (List Key × V)} (I : Inv X pins σ H s) (h : Rd H d (hoD t xs)) (ok : keysOk t xs) :
    (d == sysModules) = false ∧ ∃ o es ep, s.heap.get? d = some o ∧ o.ExactDict ∧ o.data = .dict es ep ∧ es.size = xs.length ∧ ∀ (i : Nat) (k : List Key) (v : V), xs[i]? = some (k, v) → ∃ en, es[i]? = some en ∧
      KeyAt H t k en.key := by
  cases t with
  | true =>
    have key : ∃ u, ObjOk X.prog X.w H s.heap d u ∧ u = .dT xs := ⟨_, h.ok I.hok, rfl⟩
    obtain ⟨u, hu, rfl⟩ := key
    obtain ⟨z, hs, ys, pr, o, es, ep, ho, hx, hdt, he, _⟩ := hu
    refine ⟨hs, o, es, ep, ho, hx, hdt, ?_, fun i k v e => ?_⟩
    · have l1 : es.size = ys.length := size_of_entries he
      have l2 : xs.length = ys.length := Paired.length pr
      omega
    · obtain ⟨b, hb, e1, e2, _⟩ := paired_get pr e
      have q := entry_at he i
      rw [hb] at q
      exact ⟨_, q, b.2.1, rfl, e2⟩
  | false =>
    obtain ⟨z, hs, vs, kv, o, es, ep, ho, hx, hdt, hk⟩ := (show ObjOk X.prog X.w H s.heap d (.dK _) from h.ok I.hok)
    obtain ⟨hk1, hp, hn⟩ := hk
    have l1 := hp.length
    have l2 : (xs.map fun p => (p.1.headD (.inl 0), p.2)).length = vs.length := Paired.length kv
    rw [Array.length_toList] at l1
    rw [List.length_map] at l2
    refine ⟨hs, o, es, ep, ho, hx, hdt, by omega, fun i k v e => ?_⟩
    have e' : (xs.map fun p => (p.1.headD (.inl 0), p.2))[i]? = some (k.headD (.inl 0), v) := by rw [List.getElem?_map, e]; rfl
    obtain ⟨u, hu, _⟩ := kv_get kv e'
    obtain ⟨en, hen, h1, h2⟩ := pairs_key hp hu
    exact ⟨en, by rw [← Array.getElem?_toList]; exact hen, relV_key h1⟩
def pk : Key → PyData
  | .inl i => .int i
  | .inr s => .str s
theorem toPy_kD (k : Key) : toPy (kD k) = some (pk k) := by cases k <;> rfl
theorem toPys_kD : ∀ ks : List Key, toPys (ks.map kD) = some (ks.map pk)
  | [] => rfl
  | k :: ks => by
    show (toPy (kD k)).bind _ = _
    rw [toPy_kD]
    show (toPys (ks.map kD)).map _ = _
    rw [toPys_kD ks]; rfl
theorem enc_key (t : Bool) (ks : List Key) : encD (keyDat t ks) = match t with | false => pk (ks.headD (.inl 0)) | true => .tuple (ks.map pk) := by
  cases t with
  | false => exact encD_of (toPy_kD _)
  | true => exact encD_of (by show (toPys (ks.map kD)).map _ = _; rw [toPys_kD]; rfl)
theorem reads_k {h : Heap} {k : Key} {u : Value} (r : RelV (kV k) u) : Reads h u (pk k) [] := by
  cases k with
  | inl i => obtain ⟨t, rfl⟩ := r; exact .int i t
  | inr s => obtain ⟨t, rfl⟩ := r; exact .str s t
theorem reads_ks {h : Heap} : ∀ {ks : List Key} {us : List Value}, Vals (ks.map kV) us → ReadsAll h us (ks.map pk) []
  | [], _, .nil => .nil
  | k :: ks, _, .cons r t => ReadsAll.cons (as := []) (bs := []) (reads_k r) (reads_ks t)
theorem reads_key {pins : List (Addr × Obj)} {s : Shared} {h' : Heap} {t : Bool} {ks : List Key} {u : Value} (I : Inv X pins σ H s) (kp : ∀ b o, s.heap.get? b = some o → h'.get? b = some o) (h : KeyAt H t ks u) : Reads h' u (encD (keyDat t ks)) [] := by
  rw [enc_key]
  cases t with
  | false => exact reads_k h
  | true =>
    obtain ⟨q, rfl, hq⟩ := h
    obtain ⟨z, its, rv, o, ho, hc, n, hd⟩ := (show ObjOk X.prog X.w H s.heap q (.tup _) from I.hok q _ hq)
    exact .tuple (kp _ _ ho) hc hd (reads_ks rv)
theorem each_get {α β : Type} {R : α → β → Prop} : ∀ {us : List α} {ds : List β}, us.length = ds.length → (∀ (i : Nat) (u : α) (d : β), us[i]? = some u → ds[i]? = some d → R u d) → EachIs R us ds
  | [], [], _, _ => .nil
  | u :: us, d :: ds, hl, h => .cons (h 0 u d rfl rfl) (each_get (by simpa using hl) fun i u' d' h1 h2 => h (i + 1) u' d' (by simpa using h1) (by simpa using h2))
  | [], _ :: _, hl, _ => by simp at hl
  | _ :: _, [], hl, _ => by simp at hl
def rSortedDG (K : PySem.W.Frag) : List V → Hp → VK → Prop := fun vs H Q => ∃ (G : Hp) (t : Bool) (kvs : List (List Key × D)) (ps : List PyData) (a : Addr) (xs : List (List Key × V)), vs = [V.ref a] ∧ Same G H ∧ (∀ b o, H b = some o → ¬ isOwn o → G b = some o) ∧ Rd H a (hoD t xs) ∧ keysOk t xs ∧ RepFk K G kvs xs ∧
  toPys (kvs.map fun p => keyDat t p.1) = some ps ∧ okSort ps = true ∧ kvs.length ≤ big ∧ ∀ p ys, H p = none → RepFs K G ((kvs.map fun p => keyDat t p.1).mergeSort leD) ys → Q (.ref p) (upd H p (.lst ys))
set_option maxHeartbeats 1000000 in
theorem cr_sortedDG (hcalm : X.calm = true) (hu : X.A.units + 64 < cLine) : CallR X (.builtin "sorted") (rSortedDG X.K) := by
  intro pins s σ H vs us Q I r h
  obtain ⟨G, t, kvs, ps, a, xs, rfl, e, tu, hr, ok, rk, hp, oks, hz, q⟩ := h
  rw [Vals.ref1 r]
  obtain ⟨lo, o, es, ep, ho, hx, hdt, hsz, ent⟩ := dict_raw I hr ok
  have hl : xs.length = kvs.length := rk.len
  refine Calls.call_function_entry PyProof.Rows.kind_sorted PyProof.Rows.plain_sorted PyProof.Rows.entry_sorted (PyProof.Rows.args_sorted1 _) ?_
  unfold Builtin.«sorted»
  refine wpAny_bind (m := checkCount "sorted" 1 1 _) (wpAny_pure ?_)
  refine wpAny_bind (PySem.W.kdu_collect (A := X.A.in1) (kdlR lo hx hdt) (I.ok.hd hcalm) ho (by rw [hsz, hl]; exact big_line hz) fun h' tk acc hk hacc => ?_)
  have I1 : Inv X pins σ H { s with heap := h', toks := tk } := I.kept hk
  have hal : acc.toList.length = kvs.length := by rw [Array.length_toList, hacc.1, hsz, hl]
  refine wpAny_bind (wpAny_newList ?_ (by rw [hal]; exact big_line hz))
  have hoL : (h'.push (seqObj "list" acc.toList.toArray 0)).get? h'.objs.size = some (seqObj "list" acc.toList.toArray 0) := Heap.get?_push_size _ rfl
  show wpAny _ _ _ _ _ { s with heap := h'.push (seqObj "list" acc.toList.toArray 0), toks := tk }
  obtain ⟨h1, h2⟩ := toPys_enc hp
  subst h1
  have key : ∀ (i : Nat) (u : Value) (d : D), acc.toList[i]? = some u → (kvs.map fun p => keyDat t p.1)[i]? = some d → ∃ ks : List Key, d = keyDat t ks ∧ KeyAt H t ks u := fun i u d hu hd => by
    rw [List.getElem?_map] at hd
    obtain ⟨⟨ks, d'⟩, hkv, rfl⟩ := Option.map_eq_some_iff.mp hd
    have hlt : i < xs.length := by rw [hl]; exact (List.getElem?_eq_some_iff.mp hkv).1
    obtain ⟨⟨ks', v⟩, hxi⟩ : ∃ p, xs[i]? = some p := ⟨xs[i], List.getElem?_eq_getElem hlt⟩
    obtain ⟨d2, hd2⟩ := rk.key hxi
    rw [hkv] at hd2
    cases hd2
    obtain ⟨en, hen, hkey⟩ := ent i ks v hxi
    obtain ⟨en', hen', hu'⟩ := hacc.2 i u (by rw [← Array.getElem?_toList]; exact hu)
    rw [hen] at hen'
    cases hen'
    rw [hu']
    exact ⟨ks, rfl, hkey⟩
  have hlen : acc.toList.length = (kvs.map fun p => keyDat t p.1).length := by rw [List.length_map]; exact hal
  have est : EachIs (Std X.K G) acc.toList (kvs.map fun p => keyDat t p.1) := each_get hlen fun i u d hu hd => by
    obtain ⟨ks, rfl, hkey⟩ := key i u d hu hd
    cases t with
    | false => exact ⟨_, kD_rep _, hkey⟩
    | true =>
      obtain ⟨q, rfl, hq⟩ := hkey
      exact ⟨.ref q, ⟨q, _, rfl, tu _ _ hq (fun z => z), kDs_rep ks⟩, rfl⟩
  have erd : EachIs (fun v b => ∃ as, Reads (h'.push (seqObj "list" acc.toList.toArray 0)) v (encD b) as ∧ h'.objs.size ∉ as) acc.toList (kvs.map fun p => keyDat t p.1) := each_get hlen fun i u d hu hd => by
    obtain ⟨ks, rfl, hkey⟩ := key i u d hu hd
    exact ⟨[], reads_key I1 (fun b o q => Heap.get?_push_of_some _ q) hkey, by simp⟩
  refine wpAny_bind (wpAny_holding (list_sort_data (s := { s with heap := h'.push (seqObj "list" acc.toList.toArray 0), toks := tk }) (enc := encD) hoL est erd (okSort_alike oks) (okSort_kind oks) (by rw [← hlen, hal]; exact big_line hz) (fun b hb => ?_) fun out ho' hst => ?_))
  · have := okSort_depth oks (List.mem_map.mpr ⟨b, hb, rfl⟩)
    have hu1 : X.A.in1.units ≤ X.A.units + 1 := by first | exact Nat.le_refl _ | (show _ ≤ _; simp [Around.in1, Around.units])
    omega
  · obtain ⟨ys, hy1, hy2⟩ := of_std hst
    obtain ⟨e', he'⟩ := PyProof.Rows.sortedHeap_at (vs := acc.toList) (out := List.toArray out) hoL
    refine wpAny_pure ⟨_, rfl, .ref h'.objs.size, upd H h'.objs.size (.lst ys), I1.laid (t' := tk) (fun b u e => ?_) (Nat.le_refl _) ⟨?_, out, e', hy2, he'⟩, rfl, q _ ys (I1.hok.fresh (Nat.le_refl _)) hy1⟩
    · have hb : b < h'.objs.size := Heap.lt_size e
      rw [PyProof.Rows.sortedHeap_old (Nat.ne_of_lt hb) (by rw [size_push']; exact Nat.lt_succ_of_lt hb)]
      exact Heap.get?_push_of_some _ e
    · rw [hy2.length, ho', List.length_map]
      exact big_line hz
end
end Pv
set_option Elab.async false
set_option linter.all false
set_option maxRecDepth 100000
/-! P15: tuples whose object is known, their methods; a dict of the module; tuple * int; sorted(d) -/
namespace Pv
open PySem PySem.Spec PyProof.Rows L2
section
variable {X : Cx} {K : PySem.W.Frag} {G0 G G1 G' H H' : Hp} {σ : L2.St} {ρ : Env} {ws : List (V × Arg)} {F F1 F2 : List Addr} {e a b c tg : Expr} {es : List Expr} {pos : Pos} {A B C : Fe}
/-! ### (..) and tuple(x), the object known -/
def tTupF (t : TA) : TE := fun σ H Q => t σ H fun xs H1 => xs.length ≤ sizeLine ∧ ∀ p od, H1 p = none → FT od → Q (.ref p) (upd H1 p (.frz od (.tup xs)))
theorem pe_tupF {x1} {t : TA} (h : PA X es t) : PE X (.Tuple es x1 pos) (tTupF t) := by
  refine ⟨fun pins s σ H Q I hq => ?_⟩
  refine wpAny_Tuple_spliced (thn (h.run pos pins s σ H _ I hq) fun us s1 ⟨xs, H1, I1, r, z, q⟩ => ⟨by rw [← r.length]; exact z, ?_⟩)
  have hf : H1 s1.heap.objs.size = none := I1.hok.fresh (Nat.le_refl _)
  refine ⟨.ref s1.heap.objs.size, upd H1 s1.heap.objs.size (.frz { cls := .type "tuple", data := .seq us.toArray } (.tup xs)), I1.laid (t' := s1.toks) (fun b u e => Heap.get?_push_of_some _ e) (Nat.le_refl _) ?_, rfl, q _ _ hf ⟨rfl, rfl⟩⟩
  exact ⟨Heap.get?_push_size _ rfl, z, us, r, ⟨_, Heap.get?_push_size _ rfl, rfl, _, rfl⟩⟩
theorem KTup.new {p : Addr} {od : Obj} {xs : List V} (h : FT od) : KTup K (upd G p (.frz od (.tup xs))) p xs := .inr ⟨od, h, upd_same⟩
def pKTup (A : Fa) : Fe := fun ρ => (A ρ).bind fun as => if as.length ≤ 1000 then (ownAll as).map fun ds => .v 0 (.ktp ds) else none
theorem e_ktup {B : Fa} {x1} (h : OkA X es B) : OkE X (.Tuple es x1 pos) (pKTup B) := PE.imp (pe_tupF h) fun σ H Q ⟨G0, ρ, ws, a, I, hf, q⟩ => by
  obtain ⟨as, has, hf⟩ := Option.bind_eq_some_iff.mp hf
  split at hf
  · rename_i hz
    obtain ⟨ds, hd, rfl⟩ := Option.map_eq_some_iff.mp hf
    refine ⟨G0, ρ, ws, as, I, has, fun vs H1 hl I1 => ⟨by rw [hl]; exact Nat.le_trans hz (by decide), fun p od hp ho => ?_⟩⟩
    obtain ⟨G, F1, F2, J⟩ := I1
    obtain ⟨F3, J⟩ := Si.perm ((List.reverse_perm _).append_right ws) J
    obtain ⟨G1, F4, J1, e1, r1⟩ := Si.freezeN as vs ds hl hd J
    have g := Grow.newF (o := .frz od (.tup vs)) J1.ex hp
    exact q _ _ (J1.push (k := 0) (d := .ktp ds) g ⟨⟨p, vs, rfl, KTup.new ho, RepFs.mono g.gg _ _ r1⟩, rfl⟩).SI
  · cases hf
theorem call_tuple_ofF : CallR X (.type "tuple") (fun xs H Q => ∃ p ys, xs = [.ref p] ∧ SqL X.K H p ys ∧ ∀ l od, H l = none → FT od → Q (.ref l) (upd H l (.frz od (.tup ys)))) := by
  intro pins s σ H xs us Q I r h
  obtain ⟨p, ys, rfl, hq, q⟩ := h
  obtain ⟨u, rfl, rx⟩ := vals1 r
  cases rx
  obtain ⟨its, r', pl, hz⟩ := I.list hq
  have hlen := r'.length
  refine call_tuple_list pl.isList (fun h' kp => ?_) (by simp only [List.size_toArray] <;> omega)
  have I1 : Inv X pins σ H { s with heap := h' } := I.kept (t' := s.toks) kp
  have I2 : Inv X pins σ (upd H h'.objs.size (.frz { cls := .type "tuple", data := .seq its.toArray } (.tup ys))) { s with heap := h'.push { cls := .type "tuple", data := .seq its.toArray } } :=
    I1.laid (t' := s.toks) (fun b o e => Heap.get?_push_of_some _ e) (Nat.le_refl _) ⟨Heap.get?_push_size _ rfl, hz, its, r', IsTup.new _ _⟩
  exact ⟨.ref h'.objs.size, _, I2, rfl, q _ _ (I1.hok.fresh (Nat.le_refl _)) ⟨rfl, rfl⟩⟩
def gKTupOf : W → Option W := fun u => (listD u).map fun ds => (0, .ktp ds)
theorem g_ktupOf : Op1 K (fun x H Q => ∃ p ys, [x] = [.ref p] ∧ SqL K H p ys ∧ ∀ l od, H l = none → FT od → Q (.ref l) (upd H l (.frz od (.tup ys)))) gKTupOf := by
  intro G H u x Fu w e ru hw
  obtain ⟨ds, hd, rfl⟩ := Option.map_eq_some_iff.mp hw
  obtain ⟨a, xs, rfl, h1, h2⟩ := list_rep e hd ru
  refine fun Q q => ⟨a, xs, rfl, h1, fun l od hl ho => ?_⟩
  have g := Grow.newF (o := .frz od (.tup xs)) e hl
  exact q _ _ _ [] g ⟨⟨l, xs, rfl, KTup.new ho, RepFs.mono g.gg _ _ h2⟩, rfl⟩
theorem e_ktupOf {p : Pos} (hg : Gl X "tuple") (hm : X.mg "tuple" = none) (ha : OkE X a A) (hs : starEach (a :: []) X.env = (false, eval a X.env) :: starEach [] X.env := by rfl) : OkE X (.Call (.Name "tuple" p) [a] [] pos) (pCall (on1 gKTupOf) (aCons A aNil)) :=
  e_ty call_tuple_ofF (opN_1 g_ktupOf) hg hm (by rfl) (a_cons ha a_nil hs) (hs := hs)
/-! ### its methods -/
def RecvT (K : PySem.W.Frag) (x : V) (H : Hp) : Prop := ∃ p xs, x = .ref p ∧ KTup K H p xs
theorem recvT_is {pins : List (Addr × Obj)} {s : Shared} {x : V} {v : Value} (I : Inv X pins σ H s) (r : RelV x v) (h : RecvT X.K x H) : s.TypeIs v "tuple" ∧ ∀ a, v = .ref a → ∃ ob, s.heap.get? a = some ob ∧ ob.dict = none := by
  obtain ⟨p, xs, rfl, h⟩ := h
  cases r
  rcases h with ⟨o, its, n, h1, h2, h3, _⟩ | ⟨od, h1, h2⟩
  · exact ⟨⟨o, I.kIn p o h1, h2⟩, fun a e => by cases e; exact ⟨o, I.kIn p o h1, h3⟩⟩
  · obtain ⟨q, _⟩ := (show ObjOk X.prog X.w H s.heap p (.frz od (.tup xs)) from I.hok p _ h2)
    exact ⟨⟨od, q, h1.1⟩, fun a e => by cases e; exact ⟨od, q, h1.2⟩⟩
def tBMT (K : PySem.W.Frag) (r : V → List V → Hp → VK → Prop) (to : TE) (t : TA) : TE := fun σ H Q => to σ H fun x H1 => RecvT K x H1 ∧ t σ H1 fun xs H2 => r x xs H2 Q
theorem pe_bmT {o : Expr} {to : TE} {t : TA} {name : Str} {apos cpos : Pos} {id : String} {r : V → List V → Hp → VK → Prop} (slot : Slot "tuple" name id) (hty : typeOf (.builtin id) = pure (.type "method_descriptor")) (hm : MtR X id r) (ho : PE X o to) (ha : PA X (e :: es) t)
    (hbase : attributeBase o name X.env (eval o X.env) = eval o X.env := by rfl)
    (hfew : ((backTo cpos (starEach (e :: es) X.env)).all (fun x => !x.1) && (backToKw cpos (keywordEach [] X.env)).all (fun x => x.1.isSome)
      && decide ((e :: es).length + ([] : List Keyword).length + (if ([] : List Keyword).isEmpty then 0 else 1) < 30)) = true := by rfl)
    (hline : (apos.endLine == cpos.line) = true := by rfl) (hs : starEach (e :: es) X.env = (false, eval e X.env) :: starEach es X.env := by rfl) (hplain : (backTo cpos (starEach es X.env)).any (·.1) = false := by rfl) :
    PE X (.Call (.Attribute o name apos) (e :: es) [] cpos) (tBMT X.K r to t) := by
  refine ⟨fun pins s σ H Q I h => ?_⟩
  refine wpAny_Call_method_late hbase hfew hline rfl (thn (ho.run pins s σ H _ I h) fun v s1 ⟨x, H1, I1, r1, ty, q1⟩ => ?_)
  obtain ⟨h1, h2⟩ := recvT_is I1 r1 ty
  refine ⟨"tuple", id, PySem.F.plainAttrs_tuple, slot, hty, h1, h2, ?_⟩
  have hA := ha.run cpos pins s1 σ H1 _ I1 q1
  rw [hs] at hA ⊢
  refine Calls.callWith_builtin (by show (false || (backTo cpos (starEach es X.env)).any (·.1)) = false; rw [hplain] <;> rfl) (Calls.evalArgs_plain ?_)
  exact thn hA fun us s2 ⟨vs, H2, I2, r2, q2⟩ => hm pins s2 σ H2 x vs v us Q I2 r1 r2 q2
theorem bm1_imp {r : V → List V → Hp → VK → Prop} {g : W → W → Option W} (hg : Op2 K (fun x y H Q => r x [y] H Q) g) (hr : ∀ G H u v x F w, Same G H → RO K G H u.1 u.2 x F → g u v = some w → RecvT K x H) (σ : L2.St) (H : Hp) (Q : VK) (h : tE K (pOp2 g A B) σ H Q) : tBMT K r (tE K A) (tA K (aCons B aNil)) σ H Q := by
  obtain ⟨G0, ρ, ws, a, I, hf, q⟩ := h
  obtain ⟨u, hu, hf⟩ := Option.bind_eq_some_iff.mp hf
  obtain ⟨v, hv, hf⟩ := Option.bind_eq_some_iff.mp hf
  obtain ⟨w, hw, rfl⟩ := Option.map_eq_some_iff.mp hf
  obtain ⟨a1, ha, hg1⟩ := val_some hu
  obtain ⟨a2, hb, hg2⟩ := val_some hv
  refine ⟨G0, ρ, ws, a1, I, ha, fun x H1 I1 => ⟨?_, G0, ρ, (x, a1) :: ws, [a2], I1, by simp [aCons, aNil, hb], fun vs H2 hl I2 => ?_⟩⟩
  · obtain ⟨G, F1, F2, J⟩ := I1
    obtain ⟨Fx, rx⟩ := J.top hg1
    exact hr G H1 u v x Fx w J.ex rx hw
  · match vs, hl, I2 with
    | [y], _, I2 =>
      obtain ⟨G, F1, F2, J⟩ := I2
      obtain ⟨Fy, ry⟩ := Si.top (ws := (x, a1) :: ws) J hg2
      obtain ⟨Fx, rx⟩ := Si.next (ws := ws) J hg1
      refine hg G H2 u v x y Fx Fy w J.ex rx ry hw Q fun z H' G' F' gr rv => ?_
      obtain ⟨F2', _, J'⟩ := Si.drop (ws := (x, a1) :: ws) J
      obtain ⟨F3', _, J''⟩ := Si.drop (ws := ws) J'
      exact q z H' (J''.push gr rv).SI
def rTIndexD (K : PySem.W.Frag) : V → List V → Hp → VK → Prop := fun x xs H Q => ∃ (a : Addr) (y : V) (d : PyData) (ds : List PyData) (j : Nat) (z : PyData), x = V.ref a ∧ xs = [y] ∧ Dp K H (V.ref a) (.tuple ds) ∧ Dp K H y d ∧
  SeqAt.shaped (.tuple ds) = true ∧ SeqAt.shaped d = true ∧ ds[j]? = some z ∧ PyData.eqv z d = true ∧ (∀ (m : Nat) (z' : PyData), m < j → ds[m]? = some z' → PyData.eqv z' d = false) ∧ Q (.int (j : Nat)) H
theorem mt_tindexD (hu : X.A.units + 65 < cLine) : MtR X "tuple.index" (rTIndexD X.K) := by
  intro pins s σ H x xs v us Q I rx rxs h
  obtain ⟨a, y, d, ds, j, z, rfl, rfl, hl, hy, sl, sd, hz, hzj, hno, q⟩ := h
  cases rx
  cases rxs with
  | cons ry rt =>
    rename_i uy ut
    cases rt
    obtain ⟨bs, r1⟩ := Dp.reads I d y uy hy ry
    have hxs : PyData.canLayAll0 ds = true := SeqAt.canLay_of_shaped sl
    have hroom : X.A.units + 1 + min (PyData.depthAll ds) d.depth < cLine := room_in_shaped sd hu
    cases hl with
    | tup hs ha =>
      obtain ⟨its, rv, ⟨⟨cls, dd, data, sls⟩, ho, hc, n, hdt⟩, hlen⟩ := I.tuple hs
      simp only at hc hdt
      subst hc hdt
      obtain ⟨as, h4⟩ := Dp.readsAll I ds _ its ha rv
      have hn : its.length = ds.length := SeqAt.ReadsAll.length ds its as h4
      have hmap : its.map (SeqAt.readOf s.heap) = ds := SeqAt.readsAll_map ds its as hxs h4
      have hvl := rv.length
      have hsl := sizeLine_eq
      obtain ⟨hjd, _⟩ := List.getElem?_eq_some_iff.mp hz
      have hjl : j < its.length := by omega
      have hj : j < its.toArray.size := by simpa using hjl
      have at_ : ∀ (m : Nat) (hm : m < its.toArray.size) (z' : PyData), ds[m]? = some z' → SeqAt.readOf s.heap its.toArray[m] = z' := by
        intro m hm z' hz'
        have hml : m < its.length := by simpa using hm
        rw [← hmap, List.getElem?_map, List.getElem?_eq_getElem hml] at hz'
        have e1 : SeqAt.readOf s.heap its[m] = z' := Option.some.inj (show some (SeqAt.readOf s.heap its[m]) = some z' from hz')
        simpa using e1
      refine call_meets PySem.F.slot_tuple_index ⟨_, ho, rfl⟩ PySem.F.entry_tuple_index (PySem.F.args_tuple_index_2 _ _)
        (TI.tuple_indexAt a its.toArray n dd sls uy (fun u => PyData.eqv (SeqAt.readOf s.heap u) d) j hj ?_ ?_) ⟨ho, SeqAt.items_eqAt (vs := its.toArray) (show ReadsAll s.heap its.toArray.toList ds as from h4) r1 hxs (SeqAt.canLay_of_shaped sd) hroom, ?_⟩
      · show PyData.eqv (SeqAt.readOf s.heap its.toArray[j]) d = true
        rw [at_ j hj z hz]
        exact hzj
      · intro m hm hmj
        have hmd : m < ds.length := by omega
        have hz' : ds[m]? = some ds[m] := List.getElem?_eq_getElem hmd
        show PyData.eqv (SeqAt.readOf s.heap its.toArray[m]) d = false
        rw [at_ m hm _ hz']
        exact hno m _ hmj hz'
      · exact ⟨.int (j : Nat), H, I.tok _, ⟨_, rfl⟩, q⟩
def idxP (d : PyData) : List PyData → Nat → Option Nat
  | [], _ => none
  | z :: zs, i => if PyData.eqv z d = true then some i else idxP d zs (i + 1)
theorem idxP_spec {d : PyData} : ∀ (zs : List PyData) (i j : Nat), idxP d zs i = some j → ∃ z, i ≤ j ∧ zs[j - i]? = some z ∧ PyData.eqv z d = true ∧ ∀ (m : Nat) (z' : PyData), i + m < j → zs[m]? = some z' → PyData.eqv z' d = false
  | [], i, j, h => by cases h
  | z :: zs, i, j, h => by
    unfold idxP at h
    split at h
    · rename_i he
      cases h
      exact ⟨z, Nat.le_refl _, by simp, he, fun m z' hm _ => absurd hm (by omega)⟩
    · rename_i he
      obtain ⟨y, h1, h2, h3, h4⟩ := idxP_spec zs (i + 1) j h
      refine ⟨y, by omega, ?_, h3, fun m z' hm hz => ?_⟩
      · have : j - i = (j - (i + 1)) + 1 := by omega
        rw [this, List.getElem?_cons_succ]; exact h2
      · cases m with
        | zero => simp at hz; subst hz; simpa using he
        | succ m => exact h4 m z' (by omega) (by simpa using hz)
def gTIndex : W → W → Option W
  | (_, .ktp ds), (j, d) => if eqOk (j, d) = true then (toPys ds).bind fun ps => (toPy d).bind fun p => if SeqAt.shaped (.tuple ps) = true ∧ SeqAt.shaped p = true then (idxP p ps 0).map fun n => (0, .int (n : Nat)) else none else none
  | _, _ => none
theorem g_tindex : Op2 K (fun x y H Q => rTIndexD K x [y] H Q) gTIndex := by
  intro G H u v x y Fu Fv w e ru rv hw
  unfold gTIndex at hw
  split at hw
  · split at hw
    · rename_i hk
      obtain ⟨ps, hps, hw⟩ := Option.bind_eq_some_iff.mp hw
      obtain ⟨p, hp, hw⟩ := Option.bind_eq_some_iff.mp hw
      split at hw
      · rename_i ok
        obtain ⟨n, hn, rfl⟩ := Option.map_eq_some_iff.mp hw
        obtain ⟨a, xs, rfl, h1, h2⟩ := ru.ktp
        obtain ⟨z, _, hz, he, hno⟩ := idxP_spec ps 0 n hn
        exact Res.pure (v := .int _) e rfl fun Q q => ⟨a, y, p, ps, n, z, rfl, rfl, .tup (same_t e h1.sq) (dps_of e _ ps xs hps h2), dp_ro e hk hp rv, ok.1, ok.2, by simpa using hz, he, fun m z' hm hz' => hno m z' (by omega) hz', q⟩
      · cases hw
    · cases hw
  · cases hw
theorem e_tindex {apos cpos : Pos} (hu : X.A.units + 65 < cLine) (ha : OkE X a A) (hb : OkE X b B) (hfew : ((backTo cpos (starEach (b :: []) X.env)).all (fun x => !x.1) && (backToKw cpos (keywordEach [] X.env)).all (fun x => x.1.isSome)
      && decide ((b :: []).length + ([] : List Keyword).length + (if ([] : List Keyword).isEmpty then 0 else 1) < 30)) = true := by rfl) (hbase : attributeBase a "index" X.env (eval a X.env) = eval a X.env := by rfl)
    (hline : (apos.endLine == cpos.line) = true := by rfl) (hs : starEach (b :: []) X.env = (false, eval b X.env) :: starEach [] X.env := by rfl) : OkE X (.Call (.Attribute a "index" apos) [b] [] cpos) (pOp2 gTIndex A B) :=
  PE.imp (pe_bmT PySem.F.slot_tuple_index PySem.F.type_tuple_index (mt_tindexD hu) ha (a_cons hb a_nil hs) hbase hfew hline hs (by rfl)) (bm1_imp g_tindex fun G H u v x F w e ru hw => by
    unfold gTIndex at hw
    split at hw
    · obtain ⟨a, xs, rfl, h1, h2⟩ := ru.ktp
      exact ⟨a, xs, rfl, h1.mono e⟩
    · cases hw)
/-! ### tuple * int -/
theorem tuple_mul1 (l : Addr) (items : Array Value) (n : Nat) (dd : Option Addr) (sl : Array (Option Value)) (u : Tok) :
    Meets (Builtin.«tuple.__mul__» ⟨[.ref l, .int 1 u], []⟩) (fun _ R s => s.heap.get? l = some { cls := .type "tuple", dict := dd, data := .seq items n, slots := sl } ∧ R (.ok (.ret (Value.ref l))) s) :=
  .of_wp fun prog w A R s h => by
    obtain ⟨hp, g, d, tk, os⟩ := s
    obtain ⟨hl, h⟩ := h
    have f1 := AutoSeq1.idx_int
    wp_walk using wpAny_loadPart' hl
    repeat (first
      | (refine wpAny_ite_false (decide_eq_false (by decide)) ?_; wp_walk using wpAny_loadPart' hl)
      | (refine wpAny_ite_true (decide_eq_true (by simp)) ?_; wp_walk using wpAny_loadPart' hl))
    exact ⟨_, rfl, h⟩
theorem tuple_mul0 (l : Addr) (items : Array Value) (n : Nat) (dd : Option Addr) (sl : Array (Option Value)) (u : Tok) (c1 : (items.isEmpty || (0 : Int) == 1) = false) :
    Meets (Builtin.«tuple.__mul__» ⟨[.ref l, .int 0 u], []⟩) (fun _ R s => s.heap.get? l = some { cls := .type "tuple", dict := dd, data := .seq items n, slots := sl } ∧
      R (.ok (.ret (Value.ref s.heap.objs.size))) { s with heap := s.heap.push { cls := Value.type "tuple", data := Data.seq #[] }, toks := s.toks }) :=
  .of_wp fun prog w A R s h => by
    obtain ⟨hp, g, d, tk, os⟩ := s
    obtain ⟨hl, h⟩ := h
    have f1 := AutoSeq1.idx_int
    wp_walk using wpAny_loadPart' hl
    repeat (first
      | (refine wpAny_ite_false (decide_eq_false (by decide)) ?_; wp_walk using wpAny_loadPart' hl)
      | (refine wpAny_ite_false (decide_eq_false (by rw [c1]; exact Bool.false_ne_true)) ?_; wp_walk using wpAny_loadPart' hl)
      | (refine wpAny_ite_true (decide_eq_true (by simp)) ?_; wp_walk using wpAny_loadPart' hl))
    exact ⟨_, rfl, h⟩
def rRep01 (K : PySem.W.Frag) : R2 := fun x y H Q => ∃ l k xs, x = .ref l ∧ y = .int k ∧ SqT K H l xs ∧ ((k = 1 ∧ Q (.ref l) H) ∨ (k = 0 ∧ xs ≠ [] ∧ ∀ p, H p = none → Q (.ref p) (upd H p (.tup []))))
theorem op_rep01 : OpR X (binaryOp .Mult) (rRep01 X.K) := by
  intro pins s σ H x y v u Q I rx ry h
  obtain ⟨l, k, xs, rfl, rfl, hT, q⟩ := h
  cases rx
  obtain ⟨t, rfl⟩ := ry
  obtain ⟨its, r, ⟨⟨cls, dd, data, sl⟩, ho, hc, n, hd⟩, hs⟩ := I.tuple hT
  simp only at hc hd
  subst hc hd
  have hle : its.length = xs.length := r.length.symm
  refine wpAny_binaryOp_repeat_ref (T := "tuple") (U := "int") (by decide) ⟨_, ho, rfl⟩ (fun s' => typeIs_int s' k t) noFill_tuple_mul F.fills_int_mul F.slot_int_rmul repeat_tuple F.slot_int_index.lookup
    (call_meets F.slot_int_rmul (typeIs_int s k t) F.entry_int_rmul (F.args_int_rmul_2 _ _) (int_rmul_tuple k t l its.toArray n dd sl) ⟨ho, rfl, ⟨_, ho, rfl⟩, ?_⟩)
  rcases q with ⟨rfl, q⟩ | ⟨rfl, hne, q⟩
  · exact call_meets F.slot_tuple_mul ⟨_, ho, rfl⟩ F.entry_tuple_mul (F.args_tuple_mul_2 _ _) (tuple_mul1 l its.toArray n dd sl t) ⟨ho, .ref l, H, I, rfl, q⟩
  · have hi : its.toArray.isEmpty = false := by
      cases its with
      | nil => exact absurd (List.eq_nil_of_length_eq_zero hle.symm) hne
      | cons a b => rfl
    refine call_meets F.slot_tuple_mul ⟨_, ho, rfl⟩ F.entry_tuple_mul (F.args_tuple_mul_2 _ _) (tuple_mul0 l its.toArray n dd sl t (by rw [hi]; rfl)) ⟨ho, ?_⟩
    refine ⟨.ref s.heap.objs.size, _, I.laid (t' := s.toks) (o := .tup []) (fun b ob q => Heap.get?_push_of_some _ q) (Nat.le_refl _) ⟨Nat.zero_le _, [], .nil, IsTup.new _ _⟩, rfl, q _ (I.hok.fresh (Nat.le_refl _))⟩
def gMulT : W → W → Option W
  | (_, .tup ds), (_, .int k) => if k = 1 then some (0, .tup ds) else if k = 0 ∧ ds ≠ [] then some (0, .tup []) else none
  | _, _ => none
theorem g_mulT : Op2 K (rRep01 K) gMulT := by
  intro G H u v x y Fu Fv w e ru rv hw
  unfold gMulT at hw
  split at hw
  · obtain rfl := rv.int
    obtain ⟨a, xs, rfl, h1, h2⟩ := ru.tupE
    split at hw
    · rename_i hk
      cases hw
      exact Res.pure e ⟨a, xs, rfl, h1, h2⟩ fun Q q => ⟨a, _, xs, rfl, rfl, SqT.of (e _ _ h1), .inl ⟨hk, q⟩⟩
    · split at hw
      · rename_i hk
        cases hw
        refine Res.tup (xs := []) e rfl fun Q q => ⟨a, _, xs, rfl, rfl, SqT.of (e _ _ h1), .inr ⟨hk.1, fun z => hk.2 ?_, q⟩⟩
        have := h2.len
        rw [z] at this
        exact List.eq_nil_of_length_eq_zero this.symm
      · cases hw
  · cases hw
/-! ### a dict of the module: text keys -/
def kget : List (Str × D) → Str → Option D
  | [], _ => none
  | p :: r, z => if p.1 = z then some p.2 else kget r z
/-- the name x of the module: a dict of texts to ints or texts -/
structure KD (X : Cx) (x : Str) (kc : List (Str × D)) : Prop where
  ex : ∃ d es n, X.mg x = some (.ref d) ∧ KDict X.K X.w d es n ∧ ∀ z, match kget kc z with
    | none => PySem.W.nsIn X.K d z = some none
    | some v => ∃ u x, PySem.W.nsIn X.K d z = some (some u) ∧ RelV x u ∧ ∀ G, RepF X.K G v x
def gKGet (kc : List (Str × D)) : W → Option W
  | (_, .str z) => (kget kc z).map fun v => (0, v)
  | _ => none
def gKIn (neg : Bool) (kc : List (Str × D)) : W → Option W
  | (_, .str z) => some (0, .bl (neg != (kget kc z).isSome))
  | _ => none
theorem e_kget {x : Str} {p : Pos} {kc : List (Str × D)} (k : KD X x kc) (hg : Gl X x) (hb : OkE X b B) (hs : PlainIx b := by exact fun _ _ => rfl) (hdb : (x == ("__debug__" : Str)) = false := by decide) : OkE X (.Subscript (.Name x p) b pos) (pOp1 (gKGet kc) B) := by
  obtain ⟨d, es, n, hm, hk, hz⟩ := k.ex
  refine PE.imp (pe_ix ix_kdict (pe_glob (v := .ref d) hg hm rfl hdb) hb hs) fun σ H Q h => ?_
  refine op1_imp (r := fun y H Q => rIxD X.K X.w (.ref d) y H Q) ?_ σ H Q h
  intro G H u y Fu w e ru hw
  unfold gKGet at hw
  split at hw
  · rename_i z
    obtain ⟨v, hv, rfl⟩ := Option.map_eq_some_iff.mp hw
    obtain rfl := ru.str
    have := hz z
    rw [hv] at this
    obtain ⟨u0, x0, h1, h2, h3⟩ := this
    exact Res.pure e (h3 G) fun Q q => ⟨d, z, x0, rfl, rfl, ⟨es, n, u0, hk.at_, hk.lit, h1, h2⟩, q⟩
  · cases hw
theorem kin_core {d : Addr} {kc : List (Str × D)} {z : Str} (hz : match kget kc z with
    | none => PySem.W.nsIn K d z = some none
    | some v => ∃ u x, PySem.W.nsIn K d z = some (some u) ∧ RelV x u ∧ ∀ G, RepF K G v x) : ∃ r, PySem.W.nsIn K d z = some r ∧ r.isSome = (kget kc z).isSome := by
  cases hv : kget kc z with
  | none => rw [hv] at hz; exact ⟨none, hz, rfl⟩
  | some v => rw [hv] at hz; obtain ⟨u, x, h, _⟩ := hz; exact ⟨some u, h, rfl⟩
theorem e_kin {x : Str} {p : Pos} {kc : List (Str × D)} (k : KD X x kc) (hg : Gl X x) (ha : OkE X a A) (hdb : (x == ("__debug__" : Str)) = false := by decide) (hm : behindInMarks .In (.Name x p) = false := by rfl) : OkE X (.Compare a [.In] [.Name x p] pos) (pOp1 (gKIn false kc) A) := by
  obtain ⟨d, es, n, hm', hk, hz⟩ := k.ex
  refine PE.imp (pe_cmpR (op_in_kd hk) ha (pe_glob (v := .ref d) hg hm' rfl hdb) hm) fun σ H Q h => ?_
  refine op1_imp (r := fun y H Q => ∃ (z : Str) (r : Option Value), y = .str z ∧ V.ref d = .ref d ∧ PySem.W.nsIn X.K d z = some r ∧ Q (.bl r.isSome) H) ?_ σ H Q h
  intro G H u y Fu w e ru hw
  unfold gKIn at hw
  split at hw
  · rename_i z
    cases hw
    obtain rfl := ru.str
    obtain ⟨r, h1, h2⟩ := kin_core (hz z)
    exact Res.pure (v := .bl r.isSome) e (by show V.bl _ = V.bl _; rw [h2, Bool.false_bne]) fun Q q => ⟨z, r, rfl, rfl, h1, q⟩
  · cases hw
theorem e_knotin {x : Str} {p : Pos} {kc : List (Str × D)} (k : KD X x kc) (hg : Gl X x) (ha : OkE X a A) (hdb : (x == ("__debug__" : Str)) = false := by decide) (hm : behindInMarks .NotIn (.Name x p) = false := by rfl) : OkE X (.Compare a [.NotIn] [.Name x p] pos) (pOp1 (gKIn true kc) A) := by
  obtain ⟨d, es, n, hm', hk, hz⟩ := k.ex
  refine PE.imp (pe_cmpR (op_notIn_kd hk) ha (pe_glob (v := .ref d) hg hm' rfl hdb) hm) fun σ H Q h => ?_
  refine op1_imp (r := fun y H Q => ∃ (z : Str) (r : Option Value), y = .str z ∧ V.ref d = .ref d ∧ PySem.W.nsIn X.K d z = some r ∧ Q (.bl (!r.isSome)) H) ?_ σ H Q h
  intro G H u y Fu w e ru hw
  unfold gKIn at hw
  split at hw
  · rename_i z
    cases hw
    obtain rfl := ru.str
    obtain ⟨r, h1, h2⟩ := kin_core (hz z)
    exact Res.pure (v := .bl (!r.isSome)) e (by show V.bl _ = V.bl _; rw [h2, Bool.true_bne]) fun Q q => ⟨z, r, rfl, rfl, h1, q⟩
  · cases hw
/-- D.get(k, z) -/
def tKGet2 (X : Cx) (d : Addr) (ty tx : TE) : TE := fun σ H Q => ty σ H fun y H2 => tx σ H2 fun z H3 => ∃ (k : Str) (r : Option Value), y = .str k ∧ PySem.W.nsIn X.K d k = some r ∧ ((r = none ∧ Q z H3) ∨ ∃ u x, r = some u ∧ RelV x u ∧ Q x H3)
theorem pe_kget2 {x : Str} {p : Pos} {f : Expr} {apos cpos : Pos} {d : Addr} {es : Array DictEntry} {n : Nat} {ty tx : TE} (hk : KDict X.K X.w d es n) (hg : Gl X x) (hm : X.mg x = some (.ref d)) (he : PE X e ty) (hf : PE X f tx) (m : M2 X (.Name x p) "get" apos e f cpos) (hdb : (x == ("__debug__" : Str)) = false) :
    PE X (.Call (.Attribute (.Name x p) "get" apos) [e, f] [] cpos) (tKGet2 X d ty tx) := by
  refine ⟨fun pins s σ H Q I h => ?_⟩
  refine wpAny_Call_method m.base m.few m.line PySem.F.plainAttrs_dict PySem.F.slot_dict_get PySem.F.type_dict_get (thn ((pe_glob (v := .ref d) hg hm rfl hdb).run pins s σ H (fun v H' => v = .ref d ∧ tKGet2 X d ty tx σ H' Q) I ⟨rfl, h⟩) fun u s1 ⟨x, H1, I1, rx, ex, q1⟩ => ?_)
  subst ex
  obtain rfl : u = Value.ref d := rx
  refine ⟨kd_type hk I1, fun b q => ?_, ?_⟩
  · cases q
    exact ⟨_, I1.kIn d _ hk.at_, rfl⟩
  rw [m.trees]
  refine Calls.callWith_builtin rfl (Calls.evalArgs_plain (Calls.spliced_cons (thn (he.run pins s1 σ H1 _ I1 q1) fun iv s2 ⟨y, H2, I2, ry, q2⟩ =>
    Calls.spliced_cons (thn (hf.run pins s2 σ H2 _ I2 q2) fun fv s3 ⟨z, H3, I3, rz, k, r, ey, hr, q3⟩ => Calls.spliced_nil ?_))))
  subst ey
  obtain ⟨t, rfl⟩ := ry
  refine call_meetsIn PySem.F.slot_dict_get (kd_type hk I3) PySem.F.entry_dict_get (PySem.F.args_dict_get_3 _ _ _) (meets_dict_get_default (strKind X.prog X.w) d (PySem.strKind_is X.prog X.w k t) hk.low fv) ⟨_, PySem.W.mapOf_K (prog := X.prog) (w := X.w) I3.kIn hk.at_ hk.lit, ?_⟩
  show EP X pins σ Q ((findBy Value.isStrOf es k).getD fv) _
  rw [PySem.W.find_K hk.at_ hr]
  rcases q3 with ⟨rfl, q3⟩ | ⟨u, x, rfl, ru, q3⟩
  · exact ⟨z, H3, I3.tok _, rz, q3⟩
  · exact ⟨x, H3, I3.tok _, ru, q3⟩
def pKGet2 (kc : List (Str × D)) (B C : Fe) : Fe := fun ρ => (val B ρ).bind fun v => (C ρ).bind fun c => match v.2, c with
  | .str z, .v _ d => some (.v 0 ((kget kc z).getD d))
  | _, _ => none
theorem e_kget2 {x : Str} {p : Pos} {kc : List (Str × D)} {apos cpos : Pos} (k : KD X x kc) (hg : Gl X x) (hb : OkE X b B) (hc : OkE X c C) (m : M2 X (.Name x p) "get" apos b c cpos := by exact ⟨rfl, rfl, rfl, rfl⟩) (hdb : (x == ("__debug__" : Str)) = false := by decide) :
    OkE X (.Call (.Attribute (.Name x p) "get" apos) [b, c] [] cpos) (pKGet2 kc B C) := by
  obtain ⟨d, es, n, hm, hk, hz⟩ := k.ex
  refine PE.imp (pe_kget2 hk hg hm hb hc m hdb) fun σ H Q ⟨G0, ρ, ws, x, I, hf, q⟩ => ?_
  obtain ⟨⟨k1, dv⟩, hv, hf1⟩ := Option.bind_eq_some_iff.mp hf
  obtain ⟨c, hc, hf2⟩ := Option.bind_eq_some_iff.mp hf1
  clear hf hf1
  cases dv <;> first | (cases hf2; done) | skip
  rename_i z
  cases c with
  | r j => cases hf2
  | v k2 cd =>
    cases hf2
    obtain ⟨a2, hb, hg2⟩ := val_some hv
    refine ⟨G0, ρ, ws, a2, I, hb, fun y H2 I2 => ⟨G0, ρ, (y, a2) :: ws, .v k2 cd, I2, hc, fun z' H3 I3 => ?_⟩⟩
    obtain ⟨G, F1, F2, J⟩ := I3
    obtain ⟨G', F3, J1, e1, rz⟩ := J.freeze
    obtain ⟨Fy, ry⟩ := Si.top (ws := ws) J1 hg2
    obtain ⟨F4, _, J2⟩ := Si.drop (ws := ws) J1
    obtain rfl := RO.str ry
    have := hz z
    cases hk2 : kget kc z with
    | none =>
      rw [hk2] at this q
      exact ⟨z, none, rfl, this, .inl ⟨rfl, q _ _ (J2.pushF rz).SI⟩⟩
    | some v =>
      rw [hk2] at this q
      obtain ⟨u, x, h1, h2, h3⟩ := this
      exact ⟨z, some u, rfl, h1, .inr ⟨u, x, rfl, h2, q _ _ (J2.pushF (h3 G')).SI⟩⟩
/-! ### sorted(d) -/
def pSortedD (A : Fe) : Fe := fun ρ => (val A ρ).bind fun u => match u with
  | (k, .dct t kvs) => if k ≤ 1 then (sortD (kvs.map fun p => keyDat t p.1)).map fun w => .v w.1 w.2 else none
  | _ => none
theorem e_sortedD {p : Pos} (hcalm : X.calm = true) (hu : X.A.units + 64 < cLine) (hg : Gl X "sorted") (hm : X.mg "sorted" = none) (ha : OkE X a A) (hs : starEach (a :: []) X.env = (false, eval a X.env) :: starEach [] X.env := by rfl) : OkE X (.Call (.Name "sorted" p) [a] [] pos) (pSortedD A) :=
  PE.imp (pe_callB (cr_sortedDG hcalm hu) hg hm (by rfl) (a_cons ha a_nil hs) (by decide) (by decide) hs (by rfl)) fun σ H Q ⟨G0, ρ, ws, x, I, hf, q⟩ => by
  obtain ⟨⟨k, dv⟩, hv, hf1⟩ := Option.bind_eq_some_iff.mp hf
  clear hf
  cases dv <;> first | (cases hf1; done) | skip
  rename_i t kvs
  simp only at hf1
  split at hf1
  · rename_i hk
    obtain ⟨w, hw, rfl⟩ := Option.map_eq_some_iff.mp hf1
    obtain ⟨ps, hp, hw⟩ := Option.bind_eq_some_iff.mp hw
    split at hw
    · rename_i ok
      cases hw
      refine val1 I hv fun v H1 G F1 F2 Fx J rx => ?_
      obtain ⟨a, xs, rfl, h1, h2, h3⟩ := rx.dct1 J.ex hk
      refine ⟨G, t, kvs, ps, a, xs, rfl, J.ex, J.tu, h1, h2, h3, hp, ok.1, by simpa using ok.2, fun p ys hp' hy => ?_⟩
      have g := Grow.newO (o := .lst ys) J.ex hp' trivial
      exact q _ _ (J.push (k := 1) (d := .lst _) g ⟨p, ys, [], rfl, upd_same, rfl, ROs.of_F hy⟩).SI
    · cases hw
  · cases hf1
end
end Pv
set_option Elab.async false
set_option linter.all false
set_option maxRecDepth 100000
/-! P16: extend, pop, setdefault(..).append, {k: v} -/
namespace Pv
open PySem PySem.Spec PyProof.Rows L2
section
variable {X : Cx} {K : PySem.W.Frag} {G0 G G1 G' H H' : Hp} {σ : L2.St} {ρ : Env} {ws : List (V × Arg)} {F F1 F2 : List Addr} {e a b c tg : Expr} {es : List Expr} {pos : Pos} {A B C : Fe}
theorem Si.updO {i : Nat} {p : Addr} {o : HO} {w w' : W} {v : V} {pre : List (V × Arg)} {Fa F' F'' Fb : List Addr} (I : Si K G0 σ ρ pre H G (Fa ++ (p :: F') ++ Fb) F2) (ho : isOwn o)
    (hs : ∀ (G' H' : Hp) (w' : W) (Fi' : List Addr), Same G G' → (∀ b ∈ Fa ++ Fb, H' b = H b) → RO K G' H' w'.1 w'.2 v Fi' → RSl K G' H' σ (ρ.set i (some w')) (Fa ++ Fi' ++ Fb))
    (nd : F''.Nodup) (sub : ∀ b ∈ F'', b ∈ F' ∨ b ∈ F2) (r : RO K G (upd H p o) w'.1 w'.2 v (p :: F'')) : Si K G0 σ (ρ.set i (some w')) [] (upd H p o) G (Fa ++ (p :: F'') ++ Fb) [] := by
  have n := I.nd
  have fr := I.fr
  simp only [List.nodup_append, List.mem_append, List.nodup_cons, List.mem_cons, List.cons_append] at n fr
  obtain ⟨⟨⟨n1, ⟨n2, n3⟩, n4⟩, n5, n6⟩, n7, n8⟩ := n
  have hp : ∀ b, b ∈ Fa ∨ b ∈ Fb → b ≠ p := fun b hb z => by
    subst z
    rcases hb with hb | hb
    · exact n4 b hb b (.inl rfl) rfl
    · exact n6 b (.inr (.inl rfl)) b hb rfl
  have hG : G p = none := fr p (by simp)
  refine ⟨I.ex0, fun b u q => ?_, hs G _ w' (p :: F'') (Same.refl _) (fun b hb => upd_ne (hp b (by simpa using hb))) r, rfl, ?_, fun b hb => ?_, fun b u q1 q2 => ?_, by rw [List.length_set]; exact I.ln⟩
  · rw [upd_ne (ne_of_none q hG)]; exact I.ex b u q
  · simp only [List.nodup_append, List.mem_append, List.nodup_cons, List.mem_cons, List.cons_append, List.append_nil]
    refine ⟨⟨n1, ⟨fun z => ?_, nd⟩, fun x hx y hy e => ?_⟩, n5, fun x hx y hy e => ?_⟩
    · rcases sub p z with q | q
      · exact n2 q
      · exact n8 p (.inl (.inr (.inl rfl))) p q rfl
    · subst e
      rcases hy with hy | hy
      · exact n4 x hx x (.inl hy) rfl
      · rcases sub x hy with q | q
        · exact n4 x hx x (.inr q) rfl
        · exact n8 x (.inl (.inl hx)) x q rfl
    · subst e
      rcases hx with hx | hx | hx
      · exact n6 x (.inl hx) x hy rfl
      · exact n6 x (.inr (.inl hx)) x hy rfl
      · rcases sub x hx with q | q
        · exact n6 x (.inr (.inr q)) x hy rfl
        · exact n8 x (.inr hy) x q rfl
  · apply fr
    simp only [List.mem_append, List.mem_cons, List.append_nil, List.cons_append] at hb
    rcases hb with (hb | hb | hb) | hb
    · exact .inl (.inl (.inl hb))
    · exact .inl (.inl (.inr (.inl hb)))
    · rcases sub b hb with q | q
      · exact .inl (.inl (.inr (.inr q)))
      · exact .inr q
    · exact .inl (.inr hb)
  · by_cases hb : b = p
    · subst hb; rw [upd_same] at q1; cases q1; exact absurd ho q2
    · rw [upd_ne hb] at q1; exact I.tu b u q1 q2
/-- x.extend(e), x in slot i a list of frozen items -/
def sExt (i : Nat) (A : Fe) : Fs := fun ρ => match (ρ[i]?).join with
  | some (1, .lst ds) => (A ρ).bind fun a => match a with
    | .v _ (.lst cs) => if ds.length + cs.length ≤ big then some (.nx, ρ.set i (some (1, .lst (ds ++ cs)))) else none
    | _ => none
  | _ => none
theorem s_ext {i : Nat} {x : Str} {p apos cpos : Pos} (he : OkE X e A) (hN : X.N[i]? = some x := by rfl) (hv : Vis X.env.scope x := by first | exact Or.inl rfl | exact Or.inr (Or.inl rfl) | exact Or.inr (Or.inr rfl)) (hd : (x == ("__debug__" : Str)) = false := by decide) (hcd : (x == ("__classdict__" : Str)) = false := by decide)
    (hfew : ((backTo cpos (starEach [e] X.env)).all (fun x => !x.1) && (backToKw cpos (keywordEach [] X.env)).all (fun x => x.1.isSome) && decide ([e].length + ([] : List Keyword).length + (if ([] : List Keyword).isEmpty then 0 else 1) < 30)) = true := by rfl)
    (hline : (apos.endLine == cpos.line) = true := by rfl) (hs : starEach [e] X.env = (false, eval e X.env) :: starEach [] X.env := by rfl) (hsw : swapsWith (.Call (.Attribute (.Name x p) "extend" apos) [e] [] cpos) none pos.line X.env = pure false := by rfl) :
    OkS X (.Expr (.Call (.Attribute (.Name x p) "extend" apos) [e] [] cpos) pos) (sExt i A) :=
  PS.imp (ps_expr (pe_bm PySem.F.plainAttrs_list PySem.F.slot_list_extend PySem.F.type_list_extend mt_extend (pe_var hN hv hd hcd) (pa_cons he pa_nil hs) (by rfl) hfew hline hs (by rfl)) hsw) fun D σ H ⟨G0, ρ, fl, ρ', I, hf, post⟩ => by
  unfold sExt at hf
  split at hf
  · rename_i ds hw
    have hρ := join_some hw
    obtain ⟨a, ha, hf1⟩ := Option.bind_eq_some_iff.mp hf
    clear hf
    split at hf1
    · rename_i k cs
      split at hf1
      · rename_i hz
        cases hf1
        have hx : ∃ p xs, σ[i]? = some (some (.ref p)) ∧ H p = some (.lst xs) := by
          obtain ⟨G, F1, F2, J⟩ := I
          obtain ⟨v, Fi, h1, h2, _⟩ := J.sl.at hρ
          obtain ⟨p, xs, rfl, h3, _⟩ := RO.lstN J.ex h2
          exact ⟨p, xs, h1, h3⟩
        obtain ⟨p, xs, h1, h2⟩ := hx
        refine ⟨.ref p, h1, .inl ⟨rfl, xs, SqL.of h2⟩, G0, ρ, [], _, I, ha, fun y H1 I1 => ?_⟩
        obtain ⟨G, F1, F2, J⟩ := I1
        obtain ⟨G2, F4, J2, e2, r2⟩ := J.freeze
        obtain ⟨q, zs, rfl, h3, h4⟩ := r2
        obtain ⟨v, Fa, Fi, Fb, e1, q1, q2, q3⟩ := J2.slot hρ
        rw [h1] at q1
        cases q1
        obtain ⟨p', xs', F', q0, q4, rfl, q5⟩ := q2
        cases q0
        subst e1
        obtain ⟨h6, h7⟩ := ROs.to_F q5
        subst h7
        refine ⟨p, q, xs', zs, rfl, rfl, q4, J2.ex _ _ h3, by rw [h6.len, h4.len]; exact big_line hz, post _ _ ?_⟩
        exact (Si.updO (w := (1, .lst ds)) (w' := (1, .lst (ds ++ cs))) (F'' := []) (o := .lst _) J2 trivial q3 List.nodup_nil (fun b hb => by cases hb) ⟨p, xs' ++ zs, [], rfl, upd_same, rfl, ROs.of_F (h6.append h4)⟩).SI
      · cases hf1
    · cases hf1
  · cases hf
/-! ### pop() -/
theorem RepFs.dropLast : ∀ {ds : List D} {xs : List V}, RepFs K G ds xs → RepFs K G ds.dropLast xs.dropLast
  | [], _, h => by rw [show _ = [] from h]; exact (rfl : ([] : List V) = [])
  | [d], _, ⟨x, r, h1, h2, h3⟩ => by rw [h1, show r = [] from h3]; exact (rfl : ([] : List V) = [])
  | d :: d' :: ds, _, ⟨x, r, h1, h2, h3⟩ => by
    obtain ⟨x', r', rfl, h4, h5⟩ := h3
    subst h1
    exact ⟨x, _, rfl, h2, RepFs.dropLast ⟨x', r', rfl, h4, h5⟩⟩
theorem pop_core {i : Nat} {ds : List D} {d : D} (I : SI K G0 σ ρ [] H) (hρ : ρ[i]? = some (some (1, .lst ds))) (hd : ds[ds.length - 1]? = some d) :
    ∃ p xs y, σ[i]? = some (some (.ref p)) ∧ H p = some (.lst xs) ∧ xs[xs.length - 1]? = some y ∧ ∃ G F1 F2, Si K G0 σ (ρ.set i (some (1, .lst ds.dropLast))) [] (upd H p (.lst xs.dropLast)) G F1 F2 ∧ RepF K G d y := by
  obtain ⟨G, F1, F2, J⟩ := I
  obtain ⟨v, Fa, Fi, Fb, e1, q1, q2, q3⟩ := J.slot hρ
  obtain ⟨p, xs, F', rfl, q4, rfl, q5⟩ := q2
  subst e1
  obtain ⟨h6, h7⟩ := ROs.to_F q5
  subst h7
  obtain ⟨y, hy, ry⟩ := h6.get hd
  exact ⟨p, xs, y, q1, q4, by rw [h6.len]; exact hy, G, _, _, Si.updO (w := (1, .lst ds)) (w' := (1, .lst ds.dropLast)) (F'' := []) (o := .lst _) J trivial q3 List.nodup_nil (fun b hb => by cases hb) ⟨p, xs.dropLast, [], rfl, upd_same, rfl, ROs.of_F h6.dropLast⟩, ry⟩
/-- y = x.pop() -/
def sPop (i j : Nat) : Fs := fun ρ => match (ρ[i]?).join with
  | some (1, .lst ds) => (ds[ds.length - 1]?).bind fun d => if j < ρ.length then some (.nx, (ρ.set i (some (1, .lst ds.dropLast))).set j (some (0, d))) else none
  | _ => none
theorem s_pop {i j : Nat} {x y : Str} {p py apos cpos : Pos} (hN : X.N.Nodup) (hi : X.N[i]? = some x := by rfl) (hj : X.N[j]? = some y := by rfl) (hv : Vis X.env.scope x := by first | exact Or.inl rfl | exact Or.inr (Or.inl rfl) | exact Or.inr (Or.inr rfl)) (hd : (x == ("__debug__" : Str)) = false := by decide) (hcd : (x == ("__classdict__" : Str)) = false := by decide)
    (hx : Loc X.env.scope y := by first | exact Or.inl rfl | exact Or.inr rfl) (hline : (apos.endLine == cpos.line) = true := by rfl) (hs : swapsWith (.Call (.Attribute (.Name x p) "pop" apos) [] [] cpos) (some (.Name y py)) pos.line X.env = pure false := by rfl)
    (hf : X.fn y = true ∨ X.env.scope.names.lookup y = some .local := by first | exact .inl rfl | exact .inr rfl) : OkS X (.Assign [.Name y py] (.Call (.Attribute (.Name x p) "pop" apos) [] [] cpos) pos) (sPop i j) :=
  PS.imp (ps_set hN hj hx (pe_bm0 PySem.F.plainAttrs_list PySem.F.slot_list_pop PySem.F.type_list_pop mt_pop (pe_var hi hv hd hcd) (by rfl) hline) hs hf) fun D σ H ⟨G0, ρ, fl, ρ', I, hf, post⟩ => by
  unfold sPop at hf
  split at hf
  · rename_i ds hw
    obtain ⟨d, hd, hf1⟩ := Option.bind_eq_some_iff.mp hf
    clear hf
    split at hf1
    · rename_i hlt
      cases hf1
      obtain ⟨p, xs, y, h1, h2, h3, G, F1, F2, J, ry⟩ := pop_core I (join_some hw) hd
      refine ⟨.ref p, h1, .inl ⟨rfl, xs, SqL.of h2⟩, p, xs, y, rfl, rfl, h2, h3, post _ _ ?_⟩
      exact (J.pushF ry).SI.store (by rw [List.length_set]; exact hlt)
    · cases hf1
  · cases hf
/-- y = z[x.pop()] -/
def sPopIx (i j m : Nat) : Fs := fun ρ => match (ρ[i]?).join with
  | some (1, .lst ds) => (ds[ds.length - 1]?).bind fun d => if j < ρ.length then if i = m then none else ((ρ[m]?).join).bind fun u => (gIx u (0, d)).map fun w => (.nx, (ρ.set i (some (1, .lst ds.dropLast))).set j (some w)) else none
  | _ => none
theorem s_popIx {i j m : Nat} {x y z : Str} {p py pz apos cpos ppos : Pos} (hN : X.N.Nodup) (hi : X.N[i]? = some x := by rfl) (hj : X.N[j]? = some y := by rfl) (hm : X.N[m]? = some z := by rfl) (hv : Vis X.env.scope x := by first | exact Or.inl rfl | exact Or.inr (Or.inl rfl) | exact Or.inr (Or.inr rfl)) (hd : (x == ("__debug__" : Str)) = false := by decide) (hcd : (x == ("__classdict__" : Str)) = false := by decide)
    (hv2 : Vis X.env.scope z := by first | exact Or.inl rfl | exact Or.inr (Or.inl rfl) | exact Or.inr (Or.inr rfl)) (hd2 : (z == ("__debug__" : Str)) = false := by decide) (hcd2 : (z == ("__classdict__" : Str)) = false := by decide)
    (hx : Loc X.env.scope y := by first | exact Or.inl rfl | exact Or.inr rfl) (hline : (apos.endLine == cpos.line) = true := by rfl) (hpl : PlainIx (.Call (.Attribute (.Name x p) "pop" apos) [] [] cpos) := by exact fun _ _ => rfl)
    (hs : swapsWith (.Subscript (.Name z pz) (.Call (.Attribute (.Name x p) "pop" apos) [] [] cpos) ppos) (some (.Name y py)) pos.line X.env = pure false := by rfl)
    (hf : X.fn y = true ∨ X.env.scope.names.lookup y = some .local := by first | exact .inl rfl | exact .inr rfl) : OkS X (.Assign [.Name y py] (.Subscript (.Name z pz) (.Call (.Attribute (.Name x p) "pop" apos) [] [] cpos) ppos) pos) (sPopIx i j m) :=
  PS.imp (ps_set hN hj hx (pe_ix ix_seq (pe_var hm hv2 hd2 hcd2) (pe_bm0 PySem.F.plainAttrs_list PySem.F.slot_list_pop PySem.F.type_list_pop mt_pop (pe_var hi hv hd hcd) (by rfl) hline) hpl) hs hf) fun D σ H ⟨G0, ρ, fl, ρ', I, hf, post⟩ => by
  unfold sPopIx at hf
  split at hf
  · rename_i ds hw
    obtain ⟨d, hd, hf1⟩ := Option.bind_eq_some_iff.mp hf
    clear hf
    split at hf1
    · rename_i hlt
      split at hf1
      · cases hf1
      · rename_i hne
        obtain ⟨u, hu, hf2⟩ := Option.bind_eq_some_iff.mp hf1
        obtain ⟨w, hw2, hf3⟩ := Option.map_eq_some_iff.mp hf2
        cases hf3
        clear hf1 hf2
        obtain ⟨p, xs, y, h1, h2, h3, G, F1, F2, J, ry⟩ := pop_core I (join_some hw) hd
        have hm' : (ρ.set i (some (1, Pv.D.lst ds.dropLast)))[m]? = some (some u) := by rw [List.getElem?_set_ne hne]; exact join_some hu
        obtain ⟨v, Fi, q1, q2, _⟩ := J.sl.at hm'
        refine ⟨v, q1, .ref p, h1, .inl ⟨rfl, xs, SqL.of h2⟩, p, xs, y, rfl, rfl, h2, h3, ?_⟩
        refine g_ix G _ u (0, d) v y Fi [] w J.ex q2 ⟨ry, rfl⟩ hw2 _ fun t H' G' F' gr rt => post _ _ ?_
        exact (J.push gr rt).SI.store (by rw [List.length_set]; exact hlt)
    · cases hf1
  · cases hf
/-! ### {k: v} -/
theorem Si.setTop {p : Addr} {o : HO} {w w' : W} (I : Si K G0 σ ρ ((.ref p, .v w.1 w.2) :: ws) H G F1 F2) (ho : isOwn o) (hw : ∀ F, RO K G H w.1 w.2 (.ref p) F → F = [p]) (r : RO K G (upd H p o) w'.1 w'.2 (.ref p) [p]) : Si K G0 σ ρ ((.ref p, .v w'.1 w'.2) :: ws) (upd H p o) G F1 F2 := by
  obtain ⟨Fa, Fb, e, h1, h2⟩ := I.wv
  obtain rfl := hw Fa h1
  subst e
  have n := I.nd
  simp only [List.nodup_append, List.mem_append, List.nodup_cons, List.mem_cons, List.cons_append, List.nil_append] at n
  have hp : G p = none := I.fr p (by simp)
  have h1 : ∀ a ∈ F1, a ≠ p := fun a ha e => n.2.2 a ha p (.inl rfl) e
  have h2' : ∀ a ∈ Fb, a ≠ p := fun a ha e => n.2.1.1 (e ▸ ha)
  refine ⟨I.ex0, fun b u q => ?_, RSl.mono (Same.refl _) _ _ _ (fun a ha => upd_ne (h1 a ha)) I.sl, ⟨[p], Fb, rfl, r, RWs.mono (Same.refl _) _ _ (fun a ha => upd_ne (h2' a ha)) h2⟩, I.nd, I.fr, fun b u q1 q2 => ?_, I.ln⟩
  · rw [upd_ne (ne_of_none q hp)]; exact I.ex b u q
  · by_cases hb : b = p
    · subst hb; rw [upd_same] at q1; cases q1; exact absurd ho q2
    · rw [upd_ne hb] at q1; exact I.tu b u q1 q2
def pDisp1 (B A : Fe) : Fe := fun ρ => (val B ρ).bind fun u => (keyK u.2).bind fun k => (A ρ).bind fun a => match a with
  | .v _ d => some (.v 1 (.dct false [([k], d)]))
  | .r _ => none
theorem e_disp1 (hb : OkE X b B) (ha : OkE X a A) : OkE X (.Dict [some b] [a] pos) (pDisp1 B A) := PE.imp (pe_disp (pps_cons hb ha pps_nil) rfl rfl (by simp) (by show 1 ≤ 15; decide)) fun σ H Q ⟨G0, ρ, ws, x, I, hf, q⟩ p hp => by
  obtain ⟨u, hu, hf1⟩ := Option.bind_eq_some_iff.mp hf
  obtain ⟨k, hk, hf2⟩ := Option.bind_eq_some_iff.mp hf1
  obtain ⟨c, hc, hf3⟩ := Option.bind_eq_some_iff.mp hf2
  clear hf hf1 hf2
  cases c with
  | r j => cases hf3
  | v j d =>
    cases hf3
    obtain ⟨a1, ha1, hg1⟩ := val_some hu
    obtain ⟨G, F1, F2, J⟩ := I
    have g := Grow.newO (o := .dK []) J.ex hp trivial
    have J0 := J.push (k := 1) (d := .dct false []) (v := .ref p) g ⟨p, [], [], rfl, upd_same, (fun _ p h => by cases h), rfl, rfl, rfl⟩
    refine ⟨G0, ρ, (.ref p, .v 1 (.dct false [])) :: ws, a1, J0.SI, ha1, fun y H1 I1 => ⟨G0, ρ, (y, a1) :: (.ref p, .v 1 (.dct false [])) :: ws, .v j d, I1, hc, fun z H2 I2 => ?_⟩⟩
    obtain ⟨G2, F3, F4, J2⟩ := I2
    obtain ⟨G3, F5, J3, e3, rz⟩ := J2.freeze
    obtain ⟨Fy, ry⟩ := Si.top (ws := (.ref p, .v 1 (.dct false [])) :: ws) J3 hg1
    obtain rfl := keyK_rep hk ry
    obtain ⟨F6, _, J4⟩ := Si.drop (ws := (.ref p, .v 1 (.dct false [])) :: ws) J3
    obtain ⟨Fp, rp⟩ := Si.top (ws := ws) J4 (show Arg.get ρ (.v 1 (.dct false [])) = some (1, .dct false []) from rfl)
    have hp2 : H2 p = some (.dK []) := by
      obtain ⟨p', xs, F', q0, h4, _, _, h5⟩ := rp
      cases q0
      rw [h5.1] at h4
      exact h4
    refine ⟨hp2, [(k, z)], rfl, (by show 1 ≤ 15; decide), q _ _ (Si.setTop (w := (1, .dct false [])) (w' := (1, .dct false [([k], d)])) (o := .dK _) J4 trivial (fun F r => ?_) ⟨p, [([k], z)], [], rfl, upd_same, fun _ q hq => ⟨k, by rw [List.mem_singleton.mp hq]⟩, rfl, ROk.of_F ⟨z, [], rfl, rz, rfl⟩⟩).SI⟩
    obtain ⟨p', xs, F', q0, h4, _, e5, h5⟩ := r
    cases q0
    rw [e5, h5.2]
end
end Pv
set_option Elab.async false
set_option linter.all false
set_option maxRecDepth 100000
/-! P17: x.setdefault(k, []).append(v) -/
namespace Pv
open PySem PySem.Spec PyProof.Rows L2
def setD : List (List Key × D) → List Key → D → List (List Key × D)
  | [], _, _ => []
  | p :: r, k, d => if p.1 = k then (p.1, d) :: r else p :: setD r k d
section
variable {X : Cx} {K : PySem.W.Frag} {G0 G G1 G' H H' : Hp} {σ : L2.St} {ρ : Env} {ws : List (V × Arg)} {F F1 F2 : List Addr} {e a b c tg : Expr} {es : List Expr} {pos : Pos} {A B C : Fe}
theorem ROk.zoom {R : D → V → List Addr → Prop} {k : List Key} : ∀ {kvs : List (List Key × D)} {xs : List (List Key × V)} {F : List Addr} {d : D}, ROk R kvs xs F → valD kvs k = some d →
    ∃ v FL Fd FR, F = FL ++ Fd ++ FR ∧ valV xs k = some v ∧ R d v Fd ∧ ∀ (R' : D → V → List Addr → Prop) (d' : D) (Fd' : List Addr), (∀ e u Fe, (∀ a ∈ Fe, a ∈ FL ++ FR) → R e u Fe → R' e u Fe) → R' d' v Fd' → ROk R' (setD kvs k d') xs (FL ++ Fd' ++ FR)
  | [], _, _, _, _, h => by cases h
  | (k', e) :: r, _, F, d, ⟨x, xs, Fa, Fb, h1, h2, h3, h4⟩, h => by
    subst h1 h2
    unfold valD at h
    split at h
    · rename_i ek
      cases h
      refine ⟨x, [], Fa, Fb, rfl, valV_pos ek, h3, fun R' d' Fd' f r' => ?_⟩
      unfold setD
      rw [if_pos ek]
      exact ⟨x, xs, Fd', Fb, rfl, rfl, r', ROk.imp _ _ _ (fun d v F1 s => f d v F1 fun a ha => by simpa using s a ha) h4⟩
    · rename_i ek
      obtain ⟨v, FL, Fd, FR, q1, q2, q3, q4⟩ := ROk.zoom h4 h
      subst q1
      refine ⟨v, Fa ++ FL, Fd, FR, by simp [List.append_assoc], by rw [valV_neg ek]; exact q2, q3, fun R' d' Fd' f r' => ?_⟩
      unfold setD
      rw [if_neg ek]
      refine ⟨x, xs, Fa, FL ++ Fd' ++ FR, rfl, by simp [List.append_assoc], f _ _ _ (fun a ha => by simp [ha]) h3, q4 R' d' Fd' (fun e u Fe s => f e u Fe fun a ha => ?_) r'⟩
      have := s a ha
      simp only [List.mem_append] at this ⊢
      rcases this with z | z
      · exact .inl (.inr z)
      · exact .inr z
theorem ROk.vnone {R : D → V → List Addr → Prop} {k : List Key} : ∀ {kvs : List (List Key × D)} {xs : List (List Key × V)} {F : List Addr}, ROk R kvs xs F → valD kvs k = none → valV xs k = none
  | [], _, _, h, _ => by rw [h.1]; rfl
  | (k', e) :: r, _, F, ⟨x, xs, Fa, Fb, h1, h2, h3, h4⟩, h => by
    subst h1
    unfold valD at h
    split at h
    · cases h
    · rename_i ek
      rw [valV_neg ek]
      exact ROk.vnone h4 h
theorem ROk.snoc {R : D → V → List Addr → Prop} {k : List Key} {d : D} {v : V} {Fd : List Addr} (r : R d v Fd) : ∀ {kvs : List (List Key × D)} {xs : List (List Key × V)} {F : List Addr}, ROk R kvs xs F → ROk R (kvs ++ [(k, d)]) (xs ++ [(k, v)]) (F ++ Fd)
  | [], _, _, h => by rw [h.1, h.2]; exact ⟨v, [], Fd, [], rfl, by simp, r, rfl, rfl⟩
  | (k', e) :: t, _, F, ⟨x, xs, Fa, Fb, h1, h2, h3, h4⟩ => by
    subst h1 h2
    exact ⟨x, xs ++ [(k, v)], Fa, Fb ++ Fd, rfl, by simp [List.append_assoc], h3, ROk.snoc r h4⟩
theorem ROk.len {R : D → V → List Addr → Prop} : ∀ {kvs : List (List Key × D)} {xs : List (List Key × V)} {F : List Addr}, ROk R kvs xs F → xs.length = kvs.length
  | [], _, _, h => by rw [h.1]; rfl
  | (k', e) :: t, _, F, ⟨x, xs, Fa, Fb, h1, h2, h3, h4⟩ => by rw [h1, List.length_cons, List.length_cons, ROk.len h4]
def setAppD (kvs : List (List Key × D)) (k : List Key) (d : D) : Option (List (List Key × D)) :=
  if kvs.length < big then match valD kvs k with
    | some (.lst ds) => if ds.length < big then some (setD kvs k (.lst (ds ++ [d]))) else none
    | none => some (kvs ++ [(k, .lst [d])])
    | _ => none
  else none
/-- x.setdefault(k, []).append(v): x in slot i a dict of own lists, v in slot m -/
def sSetApp (i : Nat) (B : Fe) (m : Nat) : Fs := fun ρ => match (ρ[i]?).join with
  | some (2, .dct false kvs) => (val B ρ).bind fun u => (keyK u.2).bind fun k => ((ρ[m]?).join).bind fun w => if w.1 = 0 then (setAppD kvs [k] w.2).map fun kvs' => (.nx, ρ.set i (some (2, .dct false kvs'))) else none
  | _ => none
set_option maxHeartbeats 1000000 in
theorem s_setApp {i m : Nat} {x v : Str} {p pv pl a1 c1 a2 c2 : Pos} (hb : OkE X b B) (hi : X.N[i]? = some x := by rfl) (hm : X.N[m]? = some v := by rfl) (hv : Vis X.env.scope x := by first | exact Or.inl rfl | exact Or.inr (Or.inl rfl) | exact Or.inr (Or.inr rfl)) (hd : (x == ("__debug__" : Str)) = false := by decide) (hcd : (x == ("__classdict__" : Str)) = false := by decide)
    (hv2 : Vis X.env.scope v := by first | exact Or.inl rfl | exact Or.inr (Or.inl rfl) | exact Or.inr (Or.inr rfl)) (hd2 : (v == ("__debug__" : Str)) = false := by decide) (hcd2 : (v == ("__classdict__" : Str)) = false := by decide)
    (mm : M2 X (.Name x p) "setdefault" a1 b (.List [] pl) c1 := by exact ⟨rfl, rfl, rfl, rfl⟩)
    (hfew : ((backTo c2 (starEach [.Name v pv] X.env)).all (fun x => !x.1) && (backToKw c2 (keywordEach [] X.env)).all (fun x => x.1.isSome) && decide ([Expr.Name v pv].length + ([] : List Keyword).length + (if ([] : List Keyword).isEmpty then 0 else 1) < 30)) = true := by rfl)
    (hline : (a2.endLine == c2.line) = true := by rfl) (hs : starEach [.Name v pv] X.env = (false, eval (.Name v pv) X.env) :: starEach [] X.env := by rfl)
    (hbase : attributeBase (.Call (.Attribute (.Name x p) "setdefault" a1) [b, .List [] pl] [] c1) "append" X.env (eval (.Call (.Attribute (.Name x p) "setdefault" a1) [b, .List [] pl] [] c1) X.env) = eval (.Call (.Attribute (.Name x p) "setdefault" a1) [b, .List [] pl] [] c1) X.env := by rfl)
    (hsw : swapsWith (.Call (.Attribute (.Call (.Attribute (.Name x p) "setdefault" a1) [b, .List [] pl] [] c1) "append" a2) [.Name v pv] [] c2) none pos.line X.env = pure false := by rfl) :
    OkS X (.Expr (.Call (.Attribute (.Call (.Attribute (.Name x p) "setdefault" a1) [b, .List [] pl] [] c1) "append" a2) [.Name v pv] [] c2) pos) (sSetApp i B m) :=
  PS.imp (ps_expr (pe_bm PySem.F.plainAttrs_list PySem.F.slot_list_append PySem.F.type_list_append mt_append (pe_dsetd (pe_var hi hv hd hcd) hb (pe_lst pa_nil) mm) (pa_cons (pe_var hm hv2 hd2 hcd2) pa_nil hs) hbase hfew hline hs (by rfl)) hsw) fun D σ H ⟨G0, ρ, fl, ρ', I, hf, post⟩ => by
  unfold sSetApp at hf
  split at hf
  · rename_i kvs hw
    obtain ⟨u, hu, hf1⟩ := Option.bind_eq_some_iff.mp hf
    obtain ⟨k, hk, hf2⟩ := Option.bind_eq_some_iff.mp hf1
    obtain ⟨⟨k0, dv⟩, hwm, hf3⟩ := Option.bind_eq_some_iff.mp hf2
    clear hf hf1 hf2
    simp only at hf3
    split at hf3
    · rename_i hk0
      subst hk0
      obtain ⟨kvs', hset, hf4⟩ := Option.map_eq_some_iff.mp hf3
      cases hf4
      clear hf3
      have hρ := join_some hw
      have hx : ∃ p xs, σ[i]? = some (some (.ref p)) ∧ H p = some (hoD false xs) := by
        obtain ⟨G, F1, F2, J⟩ := I
        obtain ⟨v, Fi, h1, h2, _⟩ := J.sl.at hρ
        obtain ⟨p, xs, F', rfl, h3, _⟩ := h2
        exact ⟨p, xs, h1, h3⟩
      obtain ⟨p, xs0, h1, h2⟩ := hx
      obtain ⟨ab, hab, hgb⟩ := val_some hu
      refine ⟨.ref p, h1, p, rfl, .inl ⟨_, .inl h2⟩, G0, ρ, [], ab, I, hab, fun y H2 I2 => ⟨Nat.zero_le _, fun q hq => ?_⟩⟩
      obtain ⟨G, F1, F2, J⟩ := I2
      obtain ⟨Fy, ry⟩ := Si.top (ws := []) J hgb
      obtain rfl := keyK_rep hk ry
      obtain ⟨F3, _, J1⟩ := Si.drop (ws := []) J
      obtain rfl : F3 = [] := J1.wv
      obtain ⟨v, Fa, Fi, Fb, e1, h3, h4, h5⟩ := J1.slot hρ
      rw [h1] at h3
      cases h3
      obtain ⟨p', xs, F', q0, h6, hok, e2, h7⟩ := h4
      cases q0
      subst e2 e1
      obtain ⟨vm, Fm, m1, ⟨m2, _⟩, _⟩ := J1.sl.at (join_some hwm)
      have hpq : p ≠ q := fun z => by rw [z, hq] at h6; cases h6
      have fr := J1.fr
      have nd := J1.nd
      simp only [List.nodup_append, List.mem_append, List.nodup_cons, List.mem_cons, List.cons_append, List.append_nil] at nd fr
      obtain ⟨⟨n1, ⟨n2, n3⟩, n4⟩, n5, n6⟩ := nd
      have hG : ∀ z, H2 z ≠ none → z ≠ q := fun z hz e => hz (by rw [e]; exact hq)
      have own := J1.own
      have live : ∀ z, z ∈ Fa ++ (p :: F') ++ Fb → z ≠ q := fun z hz => hG z (by obtain ⟨o, ho, _⟩ := own z (by simpa using hz); rw [ho]; simp)
      have Gq : G q = none := J1.ex.free hq
      have hl : xs.length = kvs.length := h7.len
      unfold setAppD at hset
      split at hset
      · rename_i hz
        refine ⟨xs.map (fun p => (p.1.headD (.inl 0), p.2)), k, by rw [upd_ne hpq]; exact h6, rfl, by rw [List.length_map, hl]; exact big_lt hz, fun w hw' => ?_, fun hw' => ?_⟩
        · rw [valV_head k xs (hok rfl)] at hw'
          split at hset
          · rename_i ds hds
            split at hset
            · rename_i hz2
              cases hset
              obtain ⟨v0, FL, Fd, FR, g1, g2, g3, g4⟩ := h7.zoom hds
              rw [hw'] at g2
              cases g2
              obtain ⟨bb, ys, F'', rfl, g5, g6, g7⟩ := g3
              obtain ⟨g8, g9⟩ := ROs.to_F g7
              subst g9 g6 g1
              have hbq : bb ≠ q := live bb (by simp)
              have g5' : upd H2 q (.lst []) bb = some (.lst ys) := by rw [upd_ne hbq]; exact g5
              refine ⟨.inl ⟨rfl, ys, SqL.of g5'⟩, vm, m1, bb, ys, vm, rfl, rfl, g5', by rw [g8.len]; exact big_lt hz2, post _ _ ?_⟩
              simp only [List.mem_append, List.mem_cons, List.nodup_append, List.nodup_cons, List.not_mem_nil, or_false] at n2 n3 n4 n6 fr
              have hpb : p ≠ bb := fun z => n2 (.inl (.inr z))
              have Gb : G bb = none := fr bb (by simp)
              have ne : ∀ z, z ∈ Fa ∨ z ∈ Fb → z ≠ bb := fun z hz e => by
                subst e
                rcases hz with hz | hz
                · exact n4 z hz z (.inr (.inl (.inr rfl))) rfl
                · exact n6 z (.inr (.inr (.inl (.inr rfl)))) z hz rfl
              have ne2 : ∀ z, z ∈ FL ++ FR → z ≠ bb := fun z hz e => by
                subst e
                rcases List.mem_append.mp hz with hz | hz
                · exact n3.1.2.2 z hz z rfl rfl
                · exact n3.2.2 z (.inr rfl) z hz rfl
              refine ⟨G, Fa ++ (p :: (FL ++ [bb] ++ FR)) ++ Fb, [], J1.ex0, fun z o hz => ?_, h5 G _ (2, .dct false (setD kvs [k] (.lst (ds ++ [dv])))) (p :: (FL ++ [bb] ++ FR)) (Same.refl _) (fun z hz => ?_) ⟨p, xs, FL ++ [bb] ++ FR, rfl, ?_, hok, rfl, ?_⟩, rfl, J1.nd, J1.fr, fun z o hz1 hz2 => ?_, by rw [List.length_set]; exact J1.ln⟩
              · have e1 : z ≠ bb := ne_of_none hz Gb
                have e2 : z ≠ q := ne_of_none hz Gq
                rw [upd_ne e1, upd_ne e2]; exact J1.ex z o hz
              · have hz' : z ∈ Fa ∨ z ∈ Fb := by simpa using hz
                rw [upd_ne (ne z hz'), upd_ne (live z (by rcases hz' with h | h <;> simp [h]))]
              · rw [upd_ne hpb, upd_ne hpq]; exact h6
              · refine g4 _ _ [bb] (fun e u Fe s r => RO.mono (Same.refl _) _ _ _ _ (fun z hz => ?_) r) ⟨bb, ys ++ [vm], [], rfl, upd_same, rfl, ROs.of_F (g8.append ⟨vm, [], rfl, m2, rfl⟩)⟩
                have := s z hz
                rw [upd_ne (ne2 z this), upd_ne (live z (by rcases List.mem_append.mp this with h | h <;> simp [h]))]
              · by_cases e1 : z = bb
                · subst e1; rw [upd_same] at hz1; cases hz1; exact absurd trivial hz2
                · rw [upd_ne e1] at hz1
                  by_cases e2 : z = q
                  · subst e2; rw [upd_same] at hz1; cases hz1; exact absurd trivial hz2
                  · rw [upd_ne e2] at hz1; exact J1.tu z o hz1 hz2
            · cases hset
          · rename_i hds
            rw [h7.vnone hds] at hw'; cases hw'
          · cases hset
        · rw [valV_head k xs (hok rfl)] at hw'
          split at hset
          · rename_i ds hds
            obtain ⟨v0, FL, Fd, FR, g1, g2, g3, g4⟩ := h7.zoom hds
            rw [hw'] at g2; cases g2
          · rename_i hds
            cases hset
            have hqp : q ≠ p := fun z => hpq z.symm
            have g5' : upd (upd H2 q (.lst [])) p (.dK (putK (xs.map fun p => (p.1.headD (.inl 0), p.2)) k (.ref q))) q = some (.lst []) := by rw [upd_ne hqp, upd_same]
            refine ⟨.inl ⟨rfl, [], SqL.of g5'⟩, vm, m1, q, [], vm, rfl, rfl, g5', by show 0 < sizeLine; decide, post _ _ ?_⟩
            have Gp : G p = none := fr p (by simp)
            have n1' : ∀ z, z ∈ Fa ∨ z ∈ Fb → z ≠ p ∧ z ≠ q := fun z hz => ⟨fun e => by
              subst e
              rcases hz with hz | hz
              · exact n4 z hz z (.inl rfl) rfl
              · exact n6 z (.inr (.inl rfl)) z hz rfl, live z (by rcases hz with h | h <;> simp [h])⟩
            have hpk : putK xs [k] (.ref q) = xs ++ [([k], .ref q)] := putK_new _ hw'
            refine ⟨G, Fa ++ (p :: (F' ++ [q])) ++ Fb, [], J1.ex0, fun z o hz => ?_, h5 G _ (2, .dct false (kvs ++ [([k], .lst [dv])])) (p :: (F' ++ [q])) (Same.refl _) (fun z hz => ?_) ⟨p, xs ++ [([k], .ref q)], F' ++ [q], rfl, ?_, ?_, rfl, ?_⟩, rfl, ?_, fun z hz => ?_, fun z o hz1 hz2 => ?_, by rw [List.length_set]; exact J1.ln⟩
            · rw [upd_ne (ne_of_none hz Gq), upd_ne (ne_of_none hz Gp), upd_ne (ne_of_none hz Gq)]; exact J1.ex z o hz
            · have hz' : z ∈ Fa ∨ z ∈ Fb := by simpa using hz
              obtain ⟨e1, e2⟩ := n1' z hz'
              rw [upd_ne e2, upd_ne e1, upd_ne e2]
            · rw [upd_ne hpq, upd_same, ← hpk, ← put_head (hok rfl)]; rfl
            · intro _ r hr
              rcases List.mem_append.mp hr with h | h
              · exact hok rfl r h
              · rw [List.mem_singleton.mp h]; exact ⟨k, rfl⟩
            · refine ROk.snoc ⟨q, [vm], [], rfl, upd_same, rfl, ROs.of_F ⟨vm, [], rfl, m2, rfl⟩⟩ (ROk.imp _ _ _ (fun e u Fe s r => RO.mono (Same.refl _) _ _ _ _ (fun z hz => ?_) r) h7)
              have hzF := s z hz
              have e1 : z ≠ p := fun e => n2 (e ▸ hzF)
              have e2 : z ≠ q := live z (by simp [hzF])
              rw [upd_ne e2, upd_ne e1, upd_ne e2]
            · have lq : ∀ z, z ∈ Fa ∨ z = p ∨ z ∈ F' ∨ z ∈ Fb → z ≠ q := fun z hz => live z (by rcases hz with h | h | h | h <;> simp [h])
              simp only [List.nodup_append, List.mem_append, List.nodup_cons, List.mem_cons, List.cons_append, List.append_nil, List.not_mem_nil, or_false, List.nodup_nil, and_true]
              refine ⟨⟨n1, ⟨fun z => ?_, n3, by simp, fun z hz y hy e => ?_⟩, fun z hz y hy e => ?_⟩, n5, fun z hz y hy e => ?_⟩
              · rcases z with z | z
                · exact n2 z
                · exact hpq z
              · subst hy e; exact lq _ (.inr (.inr (.inl hz))) rfl
              · subst e
                rcases hy with hy | hy | hy
                · exact n4 z hz z (.inl hy) rfl
                · exact n4 z hz z (.inr hy) rfl
                · exact lq z (.inl hz) hy
              · subst e
                rcases hz with hz | hz | hz | hz
                · exact n6 z (.inl hz) z hy rfl
                · exact n6 z (.inr (.inl hz)) z hy rfl
                · exact n6 z (.inr (.inr hz)) z hy rfl
                · exact lq z (.inr (.inr (.inr hy))) hz
            · simp only [List.mem_append, List.mem_cons, List.append_nil, List.cons_append, List.not_mem_nil, or_false] at hz
              rcases hz with (hz | hz | hz | hz) | hz
              · exact fr z (.inl (.inl hz))
              · exact fr z (.inl (.inr (.inl hz)))
              · exact fr z (.inl (.inr (.inr hz)))
              · subst hz; exact Gq
              · exact fr z (.inr hz)
            · by_cases e1 : z = q
              · subst e1; rw [upd_same] at hz1; cases hz1; exact absurd trivial hz2
              · rw [upd_ne e1] at hz1
                by_cases e2 : z = p
                · subst e2; rw [upd_same] at hz1; cases hz1; exact absurd trivial hz2
                · rw [upd_ne e2, upd_ne e1] at hz1; exact J1.tu z o hz1 hz2
          · cases hset
      · cases hset
    · cases hf3
  · cases hf
end
end Pv
set_option Elab.async false
set_option linter.all false
set_option maxRecDepth 100000
/-! P18: walks of lists and tuples alike, tests, names of the module, defs as data -/
namespace Pv
open PySem PySem.Spec PyProof.Rows L2
theorem PI.or {X : Cx} {tg e : Expr} {t t' : L2.TI} (h : PI X tg e t) (h' : PI X tg e t') : PI X tg e fun σ H R => t σ H R ∨ t' σ H R := ⟨fun pins s σ H R I q => q.elim (h.run pins s σ H R I) (h'.run pins s σ H R I)⟩
section
variable {X : Cx} {K : PySem.W.Frag} {G0 G G1 G' H H' : Hp} {σ : L2.St} {ρ : Env} {ws : List (V × Arg)} {F F1 F2 : List Addr} {e a b c tg : Expr} {es : List Expr} {pos : Pos} {A B C : Fe}
/-- a list or tuple, a value -/
def iSeq (A : Fe) : Fit := fun ρ => (A ρ).bind fun a => match a with
  | .v _ d => (seqD d).map (·.2)
  | .r _ => none
theorem i_seq (h : OkE X e A) : OkI X tg e (iSeq A) := PI.imp (PI.or (pi_list h) (pi_tup h)) fun σ H R ⟨G0, ρ, ds, I, hf, q⟩ => by
  obtain ⟨a, ha, hf1⟩ := Option.bind_eq_some_iff.mp hf
  cases a with
  | r j => cases hf1
  | v k d =>
    obtain ⟨⟨b, ds'⟩, hs, rfl⟩ := Option.map_eq_some_iff.mp hf1
    have key : ∀ (v : V) (H1 : Hp), SI X.K G0 σ ρ ((v, .v k d) :: []) H1 → ∃ G1 F1 F2 p xs, Si X.K G0 σ ρ [] H1 G1 F1 F2 ∧ v = .ref p ∧ Sq X.K G1 b p xs ∧ RepFs X.K G1 ds' xs := fun v H1 I1 => by
      obtain ⟨G, F1, F2, J⟩ := I1
      obtain ⟨G1, F2', J1, e1, r1⟩ := J.freeze
      obtain ⟨p, xs, rfl, h1, h2⟩ := seqD_rep hs r1
      exact ⟨G1, F1, F2', p, xs, J1, rfl, h1, h2⟩
    cases b with
    | true =>
      refine .inl ⟨G0, ρ, [], _, I, ha, fun v H1 I1 => ?_⟩
      obtain ⟨G1, F1, F2, p, xs, J, rfl, h1, h2⟩ := key v H1 I1
      refine ⟨p, rfl, ⟨xs, same_l J.ex h1⟩, q _ H1 G1 J.ex0 J.up ?_⟩
      exact ⟨fun i G H hi ⟨e1, e2⟩ => ⟨xs, xs[i]'(by rw [h2.len]; exact hi), same_l e2 (same_l e1 h1), by simp [h2.len, hi]⟩, fun G H ⟨e1, e2⟩ => ⟨xs, same_l e2 (same_l e1 h1), by rw [h2.len]; exact Nat.le_refl _⟩, fun i G H x H' hi ⟨e1, e2⟩ ⟨hy, hx⟩ => by
        subst hy
        obtain ⟨z, q1, q2⟩ := (RepFs.mono e1 _ _ h2).get (List.getElem?_eq_getElem hi)
        have := hx xs (same_l e2 (same_l e1 h1))
        rw [q1] at this
        cases this
        exact ⟨G, ds'[i], Grow.refl e2, List.getElem?_eq_getElem hi, q2⟩⟩
    | false =>
      refine .inr ⟨G0, ρ, [], _, I, ha, fun v H1 I1 => ?_⟩
      obtain ⟨G1, F1, F2, p, xs, J, rfl, h1, h2⟩ := key v H1 I1
      exact ⟨p, rfl, ⟨xs, same_t J.ex h1⟩, q _ H1 G1 J.ex0 J.up (Items.tupF h1 h2)⟩
theorem c_seq (h : OkE X e A) : OkIc X tg e (iSeq A) := PI.imp (PI.or (pi_list h) (pi_tup h)) fun σ H R ⟨G0, ρ, ws, ds, I, hf, q⟩ => by
  obtain ⟨a, ha, hf1⟩ := Option.bind_eq_some_iff.mp hf
  cases a with
  | r j => cases hf1
  | v k d =>
    obtain ⟨⟨b, ds'⟩, hs, rfl⟩ := Option.map_eq_some_iff.mp hf1
    have key : ∀ (v : V) (H1 : Hp), SI X.K G0 σ ρ ((v, .v k d) :: ws) H1 → ∃ G1 F1 F2 p xs, Si X.K G0 σ ρ ws H1 G1 F1 F2 ∧ v = .ref p ∧ Sq X.K G1 b p xs ∧ RepFs X.K G1 ds' xs := fun v H1 I1 => by
      obtain ⟨G, F1, F2, J⟩ := I1
      obtain ⟨G1, F2', J1, e1, r1⟩ := J.freeze
      obtain ⟨p, xs, rfl, h1, h2⟩ := seqD_rep hs r1
      exact ⟨G1, F1, F2', p, xs, J1, rfl, h1, h2⟩
    cases b with
    | true =>
      refine .inl ⟨G0, ρ, ws, _, I, ha, fun v H1 I1 => ?_⟩
      obtain ⟨G1, F1, F2, p, xs, J, rfl, h1, h2⟩ := key v H1 I1
      refine ⟨p, rfl, ⟨xs, same_l J.ex h1⟩, q _ H1 G1 J.ex0 J.up (Items.toC ?_)⟩
      exact ⟨fun i G H hi ⟨e1, e2⟩ => ⟨xs, xs[i]'(by rw [h2.len]; exact hi), same_l e2 (same_l e1 h1), by simp [h2.len, hi]⟩, fun G H ⟨e1, e2⟩ => ⟨xs, same_l e2 (same_l e1 h1), by rw [h2.len]; exact Nat.le_refl _⟩, fun i G H x H' hi ⟨e1, e2⟩ ⟨hy, hx⟩ => by
        subst hy
        obtain ⟨z, q1, q2⟩ := (RepFs.mono e1 _ _ h2).get (List.getElem?_eq_getElem hi)
        have := hx xs (same_l e2 (same_l e1 h1))
        rw [q1] at this
        cases this
        exact ⟨G, ds'[i], Grow.refl e2, List.getElem?_eq_getElem hi, q2⟩⟩
    | false =>
      refine .inr ⟨G0, ρ, ws, _, I, ha, fun v H1 I1 => ?_⟩
      obtain ⟨G1, F1, F2, p, xs, J, rfl, h1, h2⟩ := key v H1 I1
      exact ⟨p, rfl, ⟨xs, same_t J.ex h1⟩, q _ H1 G1 J.ex0 J.up (Items.tupF h1 h2).toC⟩
/-! ### tests -/
theorem t_din (hu : X.A.units + 1 < cLine) (ha : OkE X a A) (hb : OkE X b B) (hm : behindInMarks .In b = false := by rfl) : OkT X (.Compare a [.In] [b] pos) (bVal (pOp2 (gDIn false) A B)) := PT.imp (pt_cmp (pc_din hu ha hb) hm) (bVal_imp (op2_imp g_din))
theorem t_dnotin (hu : X.A.units + 1 < cLine) (ha : OkE X a A) (hb : OkE X b B) (hm : behindInMarks .NotIn b = false := by rfl) : OkT X (.Compare a [.NotIn] [b] pos) (bVal (pOp2 (gDIn true) A B)) := PT.imp (pt_cmp (pc_dnotin hu ha hb) hm) (bVal_imp (op2_imp g_dnotin))
theorem gkin_op {d : Addr} {kc : List (Str × D)} (hz : ∀ z, match kget kc z with
    | none => PySem.W.nsIn K d z = some none
    | some v => ∃ u x, PySem.W.nsIn K d z = some (some u) ∧ RelV x u ∧ ∀ G, RepF K G v x) : Op1 K (fun y H Q => ∃ (z : Str) (r : Option Value), y = .str z ∧ V.ref d = .ref d ∧ PySem.W.nsIn K d z = some r ∧ Q (.bl r.isSome) H) (gKIn false kc) := by
  intro G H u y Fu w e ru hw
  unfold gKIn at hw
  split at hw
  · rename_i z
    cases hw
    obtain rfl := ru.str
    obtain ⟨r, h1, h2⟩ := kin_core (hz z)
    exact Res.pure (v := .bl r.isSome) e (by show V.bl _ = V.bl _; rw [h2, Bool.false_bne]) fun Q q => ⟨z, r, rfl, rfl, h1, q⟩
  · cases hw
theorem t_kin {x : Str} {p : Pos} {kc : List (Str × D)} (k : KD X x kc) (hg : Gl X x) (ha : OkE X a A) (hdb : (x == ("__debug__" : Str)) = false := by decide) (hm : behindInMarks .In (.Name x p) = false := by rfl) : OkT X (.Compare a [.In] [.Name x p] pos) (bVal (pOp1 (gKIn false kc) A)) := by
  obtain ⟨d, es, n, hm', hk, hz⟩ := k.ex
  exact PT.imp (pt_cmpR (op_in_kd hk) ha (pe_glob (v := .ref d) hg hm' rfl hdb) hm) (bVal_imp fun σ H Q h => op1_imp (gkin_op hz) σ H Q h)
/-! ### a name of the module: an int, a text -/
theorem e_gint {x : Str} {i : Int} (hg : Gl X x) (hm : ∃ t, X.mg x = some (.int i t)) (hd : (x == ("__debug__" : Str)) = false := by decide) : OkE X (.Name x pos) (pC (.int i)) := by
  obtain ⟨t, hm⟩ := hm
  exact e_const (pe_glob (v := .int i) hg hm ⟨t, rfl⟩ hd) fun _ => rfl
end
/-! ### defs as data -/
/-- a def is worth what its body gives -/
def mkM (n k : Nat) (bd : Fs) : List D → Option W := fun ds => if ds.length = k then (runB n bd ds).bind fun w => if cleanD w.1 w.2 = true then some w else none else none
structure FnG (P : Program) (w : World) (K : PySem.W.Frag) (mg : Str → Option Value) (base : Heap) (k : Nat) (x : Str) (m : List D → Option W) (dd : List D) : Prop where
  ex : ∃ (f : Addr) (fd : FuncData) (ps : List Str) (dvs : List V) (dus : List Value), FnOk P w K mg base CX0 k f fd ps (spD K m) ∧ mg x = some (.ref f) ∧ PySem.W.keepIn K (.ref f) = true ∧ Binds K fd ps dus ∧ Vals dvs dus ∧ ∀ H, RepFs K H dd dvs
  cl : ∀ ds w, m ds = some w → cleanD w.1 w.2 = true
theorem FnG.d {X : Cx} {k j : Nat} {x : Str} {m : List D → Option W} {dd : List D} (F : FnG X.prog X.w X.K X.mg X.base j x m dd) (h : j ≤ k := by decide) : FnD X k x m dd :=
  let ⟨f, fd, ps, dvs, dus, h1, h2⟩ := F.ex
  ⟨⟨f, fd, ps, dvs, dus, h1.mono h, h2⟩, F.cl⟩
section
variable {P : Program} {w : World} {K : PySem.W.Frag} {mg : Str → Option Value} {base : Heap}
theorem mkM_some {n k : Nat} {bd : Fs} {ds : List D} {u : W} (h : mkM n k bd ds = some u) : ds.length = k ∧ runB n bd ds = some u ∧ cleanD u.1 u.2 = true := by
  unfold mkM at h
  split at h
  · rename_i hl
    obtain ⟨v, hv, h⟩ := Option.bind_eq_some_iff.mp h
    split at h
    · rename_i hc
      cases h
      exact ⟨hl, hv, hc⟩
    · cases h
  · cases h
theorem mkM_cl {n k : Nat} {bd : Fs} : ∀ ds u, mkM n k bd ds = some u → cleanD u.1 u.2 = true := fun ds u h => (mkM_some h).2.2
theorem fnM {x qual : Str} {st : Stmt} {f : Addr} {fd : FuncData} {N ps : List Str} {k : Nat} {bd : Fs} (F : Fun K x qual st f fd) (S : FnScope N ps (defScope st))
    (hb : ∀ (cdv : Value) (A : Around) (outer : List PySem.Env) (s : Shared) (H : Hp), Room k (A.deeper (envOfC qual (defScope st) s.heap.objs.size f cdv)) → OkB (cxOf CX0 P w K mg base N qual (defScope st) f cdv A outer s H E0).nox (defBody st) bd) :
    FnOk P w K mg base CX0 (k + 1) f fd ps (spD K (mkM N.length ps.length bd)) :=
  fnD F S (fun ds u h => (mkM_some h).1) hb fun ds u h => (mkM_some h).2.1
theorem FnG.mk' {x : Str} {f : Addr} {fd : FuncData} {ps : List Str} {k n j : Nat} {bd : Fs} (h : FnOk P w K mg base CX0 k f fd ps (spD K (mkM n j bd))) (hm : mg x = some (.ref f)) (hk : PySem.W.keepIn K (.ref f) = true) (hb : Binds K fd ps []) : FnG P w K mg base k x (mkM n j bd) [] :=
  ⟨⟨f, fd, ps, [], [], h, hm, hk, hb, .nil, fun _ => rfl⟩, mkM_cl⟩
end
end Pv
set_option Elab.async false
set_option linter.all false
set_option maxRecDepth 100000
/-! P19: +=, dicts of the module -/
namespace Pv
open PySem PySem.Spec PyProof.Rows L2
section
variable {K : PySem.W.Frag}
theorem hu65 {A : Around} {k : Nat} (hr : Room k A) : A.units + 65 < cLine := by have := hr.un; omega
def gAddI : W → W → Option W
  | (_, .int i), (_, .int j) => some (0, .int (i + j))
  | _, _ => none
theorem g_addI : Op2 K (ipI fun i j => i + j) gAddI := by
  intro G H u v x y Fu Fv w e ru rv hw
  unfold gAddI at hw; split at hw
  · cases hw
    obtain rfl := ru.int
    obtain rfl := rv.int
    exact Res.pure (v := .int _) e rfl fun Q q => ⟨_, _, rfl, rfl, q⟩
  · cases hw
structure KDG (w : World) (K : PySem.W.Frag) (mg : Str → Option Value) (x : Str) (kc : List (Str × D)) : Prop where
  ex : ∃ d es n, mg x = some (.ref d) ∧ KDict K w d es n ∧ ∀ z, match kget kc z with
    | none => PySem.W.nsIn K d z = some none
    | some v => ∃ u x, PySem.W.nsIn K d z = some (some u) ∧ RelV x u ∧ ∀ G, RepF K G v x
theorem KDG.d {X : Cx} {x : Str} {kc : List (Str × D)} (h : KDG X.w X.K X.mg x kc) : KD X x kc := ⟨h.ex⟩
abbrev KEnt (K : PySem.W.Frag) (e : DictEntry) (p : Str × D) : Prop := (∃ t, e.key = .str p.1 t) ∧ ∃ x, RelV x e.val ∧ ∀ G, RepF K G p.2 x
theorem ns_of : ∀ {es : List DictEntry} {kc : List (Str × D)}, Paired (KEnt K) es kc → ∀ z, (match es.find? (·.key.isStr z) with
    | some e => ∃ v, kget kc z = some v ∧ ∃ x, RelV x e.val ∧ ∀ G, RepF K G v x
    | none => kget kc z = none ∧ es.any (·.refKey) = false)
  | _, _, .nil, z => ⟨rfl, rfl⟩
  | e :: es, p :: kc, .cons ⟨⟨t, h1⟩, h2⟩ r, z => by
    have ih := ns_of r z
    rw [List.find?_cons]
    have hk : e.key.isStr z = decide (p.1 = z) := by
      rw [h1]
      show (p.1 == z) = _
      by_cases q : p.1 = z
      · rw [q]; simp
      · rw [decide_eq_false q]; exact beq_eq_false_iff_ne.mpr q
    rw [hk]
    by_cases q : p.1 = z
    · rw [decide_eq_true q]
      refine ⟨p.2, ?_, h2⟩
      unfold kget
      rw [if_pos q]
    · rw [decide_eq_false q]
      dsimp only
      have hg : kget (p :: kc) z = kget kc z := by
        show (if p.1 = z then some p.2 else kget kc z) = _
        rw [if_neg q]
      rw [hg, List.any_cons]
      have hr : e.refKey = false := by unfold DictEntry.refKey; rw [h1]
      rw [hr, Bool.false_or]
      exact ih
theorem KDG.mk' {w : World} {mg : Str → Option Value} {x : Str} {kc : List (Str × D)} {d : Addr} {es : Array DictEntry} {n : Nat} (hm : mg x = some (.ref d)) (lk : K.lookup d = some ⟨.type "dict", none, .dict es n, #[]⟩) (lit : PySem.W.KeysLit w.params es.toList) (lo : (d == sysModules) = false)
    (hp : Paired (KEnt K) es.toList kc) : KDG w K mg x kc := by
  refine ⟨d, es, n, hm, ⟨lk, lit, lo⟩, fun z => ?_⟩
  have := ns_of hp z
  unfold PySem.W.nsIn
  rw [lk]
  dsimp only
  split at this
  · rename_i e he
    obtain ⟨v, h1, y, h2, h3⟩ := this
    rw [h1, he]
    exact ⟨e.val, y, rfl, h2, h3⟩
  · rename_i he
    rw [this.1, he]
    dsimp only
    rw [this.2]
    rfl
end
end Pv
set_option Elab.async false
set_option linter.all false
set_option maxRecDepth 100000
/-! P20: y = x where x is not read again: what x owns goes over to y -/
namespace Pv
open PySem PySem.Spec PyProof.Rows L2
section
variable {X : Cx} {K : PySem.W.Frag} {G0 G G1 G' H H' : Hp} {σ : L2.St} {ρ : Env} {ws : List (V × Arg)} {F F1 F2 : List Addr} {pos : Pos}
theorem Si.take {i : Nat} {w : W} (I : Si K G0 σ ρ [] H G F1 F2) (h : ρ[i]? = some (some w)) : ∃ v F3 F4, σ[i]? = some (some v) ∧ Si K G0 σ (ρ.set i none) [(v, .v w.1 w.2)] H G F3 F4 := by
  have hi : i < ρ.length := (List.getElem?_eq_some_iff.mp h).1
  obtain ⟨Fa, Fi, Fb, e1, e2, _, e3⟩ := RSl.zoom σ ρ F1 i I.sl hi (by rw [I.ln]; exact hi)
  obtain ⟨v, h1, h2⟩ := e2 w h
  have := e3 G H (some v) none [] (Same.refl _) (fun _ _ => rfl) (fun w e => by cases e) (fun _ => rfl)
  have hs : σ.set i (some v) = σ := by
    obtain ⟨hlt, e⟩ := List.getElem?_eq_some_iff.mp h1
    rw [← e, List.set_getElem_self]
  rw [hs] at this
  have e4 : F2 = [] := I.wv
  subst e4 e1
  have nd := I.nd
  have fr := I.fr
  simp only [List.nodup_append, List.mem_append, List.append_nil] at nd fr
  refine ⟨v, Fa ++ [] ++ Fb, Fi, h1, I.ex0, I.ex, this, ⟨Fi, [], by simp, h2, rfl⟩, ?_, fun b hb => fr b ?_, I.tu, by rw [List.length_set]; exact I.ln⟩
  · simp only [List.nodup_append, List.mem_append, List.append_nil]
    refine ⟨⟨nd.1.1, nd.2.1, fun p hp q hq => nd.2.2 p (.inl hp) q hq⟩, nd.1.2.1, fun p hp q hq e => ?_⟩
    rcases hp with hp | hp
    · exact nd.1.2.2 p hp q hq e
    · exact nd.2.2 q (.inr hq) p hp e.symm
  · simp only [List.mem_append, List.append_nil] at hb
    rcases hb with (hb | hb) | hb
    · exact .inl (.inl hb)
    · exact .inr hb
    · exact .inl (.inr hb)
def sMv (i j : Nat) : Fs := fun ρ => ((ρ[i]?).join).bind fun w => if j < ρ.length then some (.nx, (ρ.set i none).set j (some w)) else none
theorem s_mv {i j : Nat} {x y : Str} {p py : Pos} (hN : X.N.Nodup) (hi : X.N[i]? = some x := by rfl) (hj : X.N[j]? = some y := by rfl) (hv : Vis X.env.scope x := by first | exact Or.inl rfl | exact Or.inr (Or.inl rfl) | exact Or.inr (Or.inr rfl)) (hd : (x == ("__debug__" : Str)) = false := by decide) (hcd : (x == ("__classdict__" : Str)) = false := by decide)
    (hx : Loc X.env.scope y := by first | exact Or.inl rfl | exact Or.inr rfl) (hs : swapsWith (.Name x p) (some (.Name y py)) pos.line X.env = pure false := by rfl)
    (hf : X.fn y = true ∨ X.env.scope.names.lookup y = some .local := by first | exact .inl rfl | exact .inr rfl) : OkS X (.Assign [.Name y py] (.Name x p) pos) (sMv i j) :=
  PS.imp (ps_set hN hj hx (pe_var hi hv hd hcd) hs hf) fun D σ H ⟨G0, ρ, fl, ρ', I, hf, post⟩ => by
  obtain ⟨w, hw, hf1⟩ := Option.bind_eq_some_iff.mp hf
  clear hf
  split at hf1
  · rename_i hlt
    cases hf1
    obtain ⟨G, F1, F2, J⟩ := I
    obtain ⟨v, F3, F4, h1, J1⟩ := J.take (join_some hw)
    exact ⟨v, h1, post _ _ (J1.SI.store (by rw [List.length_set]; exact hlt))⟩
  · cases hf1
end
end Pv
set_option Elab.async false
set_option linter.all false
set_option maxRecDepth 100000
/-! P21: how the data run: one lemma for each form, for simp -/
namespace Pv
open PySem
section
variable {ρ : Env} {A B C : Fe} {T U : Fb} {f g : Fs} {i j n k : Nat} {d : D} {w u v : W}
/-- what is behind a statement -/
def thenS : Option (Fl × Env) → Fs → Option (Fl × Env)
  | some (.nx, ρ), g => g ρ
  | some p, _ => some p
  | none, _ => none
theorem r_seq : bSeq f g ρ = thenS (f ρ) g := by
  unfold bSeq thenS
  rcases f ρ with _ | ⟨fl, ρ'⟩
  · rfl
  · cases fl <;> rfl
@[simp] theorem r_seq_nx : thenS (some (.nx, ρ)) g = g ρ := rfl
@[simp] theorem r_seq_rt : thenS (some (.rt w, ρ)) g = some (.rt w, ρ) := rfl
@[simp] theorem r_seq_bk : thenS (some (.bk, ρ)) g = some (.bk, ρ) := rfl
@[simp] theorem r_seq_ct : thenS (some (.ct, ρ)) g = some (.ct, ρ) := rfl
theorem r_nil : bNil ρ = some (.nx, ρ) := rfl
def iteR : Option Bool → Fs → Fs → Env → Option (Fl × Env)
  | some true, f, _, ρ => f ρ
  | some false, _, g, ρ => g ρ
  | none, _, _, _ => none
theorem r_if : sIf T f g ρ = iteR (T ρ) f g ρ := by
  unfold sIf iteR
  rcases T ρ with _ | b
  · rfl
  · cases b <;> rfl
@[simp] theorem r_if_t : iteR (some true) f g ρ = f ρ := rfl
@[simp] theorem r_if_f : iteR (some false) f g ρ = g ρ := rfl
def asgR (i : Nat) : Option Arg → Env → Option (Fl × Env)
  | some (.v k d), ρ => if i < ρ.length then some (.nx, ρ.set i (some (k, d))) else none
  | _, _ => none
theorem r_asg : sAsg i A ρ = asgR i (A ρ) ρ := by
  unfold sAsg asgR putArg
  rcases A ρ with _ | a
  · rfl
  · cases a with
    | v k d =>
      dsimp only [Option.bind_some]
      by_cases h : i < ρ.length
      · simp [h]
      · simp [h]
    | r j => rfl
@[simp] theorem r_asg_v {k : Nat} : asgR i (some (.v k d)) ρ = if i < ρ.length then some (.nx, ρ.set i (some (k, d))) else none := (rfl)
/-! values -/
def argR : Option W → Option Arg
  | some w => some (.v w.1 w.2)
  | none => none
@[simp] theorem r_arg : argR (some w) = some (.v w.1 w.2) := rfl
@[simp] theorem r_c : pC d ρ = some (.v 0 d) := rfl
def pvR : Option W → Option Arg
  | some (0, d) => some (.v 0 d)
  | some (_ + 1, d) => if isBox d then none else some (.v 0 d)
  | none => none
@[simp] theorem r_var : pVar i ρ = pvR (ρ[i]?.join) := by
  unfold pVar pvR
  rcases ρ[i]?.join with _ | ⟨k, d⟩
  · rfl
  · cases k with
    | zero => rfl
    | succ k => simp
@[simp] theorem r_var_0 : pvR (some (0, d)) = some (.v 0 d) := rfl
@[simp] theorem r_var_s : pvR (some (k + 1, d)) = if isBox d then none else some (.v 0 d) := (rfl)
def bvR (i : Nat) : Option W → Option Arg
  | some _ => some (.r i)
  | none => none
@[simp] theorem r_bv : pBv i ρ = bvR i (ρ[i]?.join) := by
  unfold pBv bvR
  rcases ρ[i]?.join with _ | w <;> rfl
@[simp] theorem r_bv_s : bvR i (some w) = some (.r i) := rfl
def pvV : Option W → Option W
  | some (0, d) => some (0, d)
  | some (_ + 1, d) => if isBox d then none else some (0, d)
  | none => none
@[simp] theorem v_c : val (pC d) ρ = some (0, d) := rfl
@[simp] theorem v_bv : val (pBv i) ρ = ρ[i]?.join := by
  unfold val
  rw [r_bv]
  rcases h : ρ[i]?.join with _ | w
  · rfl
  · show ρ[i]?.join = some w
    exact h
@[simp] theorem v_var : val (pVar i) ρ = pvV (ρ[i]?.join) := by
  unfold val
  rw [r_var]
  rcases h : ρ[i]?.join with _ | ⟨k, d⟩
  · rfl
  · cases k with
    | zero => rfl
    | succ k =>
      show (if isBox d = true then none else some (Arg.v 0 d)).bind (Arg.get ρ) = if isBox d = true then none else some (0, d)
      cases isBox d <;> rfl
@[simp] theorem v_var_0 : pvV (some (0, d)) = some (0, d) := rfl
def g1R (g : W → Option W) : Option W → Option W
  | some u => g u
  | none => none
def g2R (g : W → W → Option W) : Option W → Option W → Option W
  | some u, some v => g u v
  | _, _ => none
@[simp] theorem g1_s {g : W → Option W} : g1R g (some u) = g u := rfl
@[simp] theorem g2_s {g : W → W → Option W} : g2R g (some u) (some v) = g u v := rfl
theorem val_arg {x : Option W} {F : Fe} (h : F ρ = argR x) : val F ρ = x := by
  unfold val
  rw [h]
  cases x <;> rfl
@[simp] theorem r_op1 {g : W → Option W} : pOp1 g A ρ = argR (g1R g (val A ρ)) := by
  unfold pOp1 g1R argR
  rcases val A ρ with _ | u
  · rfl
  · dsimp only [Option.bind_some]
    cases g u <;> rfl
@[simp] theorem r_op2 {g : W → W → Option W} : pOp2 g A B ρ = argR (g2R g (val A ρ) (val B ρ)) := by
  unfold pOp2 g2R argR
  rcases val A ρ with _ | u
  · rfl
  · dsimp only [Option.bind_some]
    rcases val B ρ with _ | v
    · rfl
    · dsimp only [Option.bind_some]
      cases g u v <;> rfl
@[simp] theorem v_op1 {g : W → Option W} : val (pOp1 g A) ρ = g1R g (val A ρ) := val_arg r_op1
@[simp] theorem v_op2 {g : W → W → Option W} : val (pOp2 g A B) ρ = g2R g (val A ρ) (val B ρ) := val_arg r_op2
/-! arguments -/
def valA (A : Fa) (ρ : Env) : Option (List W) := (A ρ).bind (getAll ρ)
def consR : Option W → Option (List W) → Option (List W)
  | some u, some us => some (u :: us)
  | _, _ => none
@[simp] theorem va_nil : valA aNil ρ = some [] := rfl
@[simp] theorem va_cons {B : Fa} : valA (aCons A B) ρ = consR (val A ρ) (valA B ρ) := by
  unfold valA aCons val consR
  rcases A ρ with _ | a
  · rfl
  · dsimp only [Option.bind_some]
    rcases B ρ with _ | as
    · dsimp only [Option.map_none, Option.bind_none]
      cases a.get ρ <;> rfl
    · show getAll ρ (a :: as) = _
      unfold getAll
      dsimp only [Option.bind_some]
      cases a.get ρ with
      | none => rfl
      | some w => cases getAll ρ as <;> rfl
@[simp] theorem consR_s {us : List W} : consR (some u) (some us) = some (u :: us) := rfl
def gNR (g : List W → Option W) : Option (List W) → Option W
  | some us => g us
  | none => none
@[simp] theorem gN_s {g : List W → Option W} {us : List W} : gNR g (some us) = g us := rfl
@[simp] theorem on1_s {g : W → Option W} : on1 g [u] = g u := rfl
@[simp] theorem r_call {g : List W → Option W} {B : Fa} : pCall g B ρ = argR (gNR g (valA B ρ)) := by
  unfold pCall valA gNR argR
  rcases B ρ with _ | as
  · rfl
  · dsimp only [Option.bind_some]
    rcases getAll ρ as with _ | us
    · rfl
    · dsimp only [Option.bind_some]
      cases g us <;> rfl
@[simp] theorem v_call {g : List W → Option W} {B : Fa} : val (pCall g B) ρ = gNR g (valA B ρ) := val_arg r_call
def fnR (m : List D → Option W) (dd : List D) : Option (List W) → Option W
  | some us => m (us.map (·.2) ++ dd)
  | none => none
@[simp] theorem fn_s {m : List D → Option W} {dd : List D} {us : List W} : fnR m dd (some us) = m (us.map (·.2) ++ dd) := rfl
@[simp] theorem r_fn {m : List D → Option W} {dd : List D} {B : Fa} : pFn m dd B ρ = argR (fnR m dd (valA B ρ)) := by
  unfold pFn valA fnR argR
  rcases B ρ with _ | as
  · rfl
  · dsimp only [Option.bind_some]
    rcases getAll ρ as with _ | us
    · rfl
    · dsimp only [Option.bind_some]
      cases m (us.map (·.2) ++ dd) <;> rfl
@[simp] theorem v_fn {m : List D → Option W} {dd : List D} {B : Fa} : val (pFn m dd B) ρ = fnR m dd (valA B ρ) := val_arg r_fn
/-! displays: their items are values of their own -/
def ownV (A : Fa) (ρ : Env) : Option (List D) := (A ρ).bind ownAll
def ownC : Option Arg → Option (List D) → Option (List D)
  | some (.v _ d), some ds => some (d :: ds)
  | _, _ => none
@[simp] theorem ow_nil : ownV aNil ρ = some [] := rfl
@[simp] theorem ow_cons {B : Fa} : ownV (aCons A B) ρ = ownC (A ρ) (ownV B ρ) := by
  unfold ownV aCons ownC
  rcases A ρ with _ | a
  · rfl
  · dsimp only [Option.bind_some]
    rcases B ρ with _ | as
    · cases a <;> rfl
    · cases a with
      | v k d =>
        show (ownAll as).map _ = _
        dsimp only [Option.bind_some]
        cases ownAll as <;> rfl
      | r j => rfl
@[simp] theorem ownC_s {ds : List D} : ownC (some (.v k d)) (some ds) = some (d :: ds) := rfl
theorem own_len : ∀ {as : List Arg} {ds : List D}, ownAll as = some ds → as.length = ds.length
  | [], _, h => by cases h; rfl
  | .v k d :: as, _, h => by
    obtain ⟨ds, hd, rfl⟩ := Option.map_eq_some_iff.mp h
    rw [List.length_cons, List.length_cons, own_len hd]
  | .r _ :: _, _, h => by cases h
def dispR (k : Nat) (c : List D → D) : Option (List D) → Option W
  | some ds => if ds.length ≤ 1000 then some (k, c ds) else none
  | none => none
@[simp] theorem disp_s {c : List D → D} {ds : List D} : dispR k c (some ds) = if ds.length ≤ 1000 then some (k, c ds) else none := (rfl)
theorem disp_of {c : List D → D} {B : Fa} : ((B ρ).bind fun as => if as.length ≤ 1000 then (ownAll as).map fun ds => Arg.v k (c ds) else none) = argR (dispR k c (ownV B ρ)) := by
  unfold ownV dispR argR
  rcases B ρ with _ | as
  · rfl
  · dsimp only [Option.bind_some]
    rcases h : ownAll as with _ | ds
    · by_cases hl : as.length ≤ 1000
      · rw [if_pos hl]; rfl
      · rw [if_neg hl]
    · have := own_len h
      by_cases hl : as.length ≤ 1000
      · rw [if_pos hl]
        dsimp only [Option.map_some]
        rw [if_pos (by omega)]
      · rw [if_neg hl]
        dsimp only
        rw [if_neg (by omega)]
@[simp] theorem r_tup {B : Fa} : pTup B ρ = argR (dispR 0 .tup (ownV B ρ)) := disp_of
@[simp] theorem r_ktup {B : Fa} : pKTup B ρ = argR (dispR 0 .ktp (ownV B ρ)) := disp_of
@[simp] theorem r_lst {B : Fa} : pLst B ρ = argR (dispR 1 .lst (ownV B ρ)) := disp_of
@[simp] theorem v_tup {B : Fa} : val (pTup B) ρ = dispR 0 .tup (ownV B ρ) := val_arg r_tup
@[simp] theorem v_ktup {B : Fa} : val (pKTup B) ρ = dispR 0 .ktp (ownV B ρ) := val_arg r_ktup
@[simp] theorem v_lst {B : Fa} : val (pLst B) ρ = dispR 1 .lst (ownV B ρ) := val_arg r_lst
/-! tests -/
def blR : Option W → Option Bool
  | some (_, .bl b) => some b
  | _ => none
@[simp] theorem t_vl : bVal A ρ = blR (val A ρ) := by
  unfold bVal blR
  rcases val A ρ with _ | ⟨k, d⟩
  · rfl
  · cases d <;> rfl
@[simp] theorem bl_s {b : Bool} : blR (some (k, .bl b)) = some b := rfl
def notR : Option Bool → Option Bool
  | some b => some (!b)
  | none => none
@[simp] theorem t_nt : bNot T ρ = notR (T ρ) := by unfold bNot notR; cases T ρ <;> rfl
@[simp] theorem not_s {b : Bool} : notR (some b) = some (!b) := rfl
def andR : Option Bool → Fb → Env → Option Bool
  | some true, U, ρ => U ρ
  | some false, _, _ => some false
  | none, _, _ => none
def orR : Option Bool → Fb → Env → Option Bool
  | some false, U, ρ => U ρ
  | some true, _, _ => some true
  | none, _, _ => none
@[simp] theorem t_an : bAnd T U ρ = andR (T ρ) U ρ := by
  unfold bAnd andR
  rcases T ρ with _ | b
  · rfl
  · cases b <;> rfl
@[simp] theorem t_or : bOr T U ρ = orR (T ρ) U ρ := by
  unfold bOr orR
  rcases T ρ with _ | b
  · rfl
  · cases b <;> rfl
@[simp] theorem and_t : andR (some true) U ρ = U ρ := rfl
@[simp] theorem and_f : andR (some false) U ρ = some false := rfl
@[simp] theorem or_t : orR (some true) U ρ = some true := rfl
@[simp] theorem or_f : orR (some false) U ρ = U ρ := rfl
def truR : Option W → Option Bool
  | some w => truth w
  | none => none
@[simp] theorem t_tr : bTru A ρ = truR (val A ρ) := by unfold bTru truR; cases val A ρ <;> rfl
@[simp] theorem tru_s : truR (some w) = truth w := rfl
def ifR : Option Bool → Fe → Fe → Env → Option Arg
  | some true, A, _, ρ => A ρ
  | some false, _, B, ρ => B ρ
  | none, _, _, _ => none
@[simp] theorem r_ife : pIf T A B ρ = ifR (T ρ) A B ρ := by
  unfold pIf ifR
  rcases T ρ with _ | b
  · rfl
  · cases b <;> rfl
@[simp] theorem ife_t : ifR (some true) A B ρ = A ρ := rfl
@[simp] theorem ife_f : ifR (some false) A B ρ = B ρ := rfl
/-! statements -/
def appR (i : Nat) : Option W → Option Arg → Env → Option (Fl × Env)
  | some (k + 1, .lst ds), some (.v j d), ρ => if lvlOk k j d = true ∧ ds.length < big then some (.nx, ρ.set i (some (k + 1, .lst (ds ++ [d])))) else none
  | _, _, _ => none
@[simp] theorem r_app : sApp i A ρ = appR i (ρ[i]?.join) (A ρ) ρ := by
  unfold sApp appR
  rcases ρ[i]?.join with _ | ⟨k, d⟩
  · rfl
  · cases k with
    | zero => cases d <;> rfl
    | succ k =>
      cases d <;> first | rfl | skip
      rcases A ρ with _ | a
      · rfl
      · cases a <;> rfl
@[simp] theorem app_s {ds : List D} : appR i (some (1, .lst ds)) (some (.v j d)) ρ = if ds.length < big then some (.nx, ρ.set i (some (1, .lst (ds ++ [d])))) else none := by
  unfold appR lvlOk
  simp
def augR (i : Nat) (g : W → W → Option W) : Option W → Option W → Env → Option (Fl × Env)
  | some u, some v, ρ => (match g u v with | some w => if i < ρ.length then some (.nx, ρ.set i (some w)) else none | none => none)
  | _, _, _ => none
@[simp] theorem r_aug {g : W → W → Option W} : sAug i g A ρ = augR i g (ρ[i]?.join) (val A ρ) ρ := by
  unfold sAug augR
  rcases ρ[i]?.join with _ | u
  · rfl
  · dsimp only [Option.bind_some]
    rcases val A ρ with _ | v
    · rfl
    · dsimp only [Option.bind_some]
      cases g u v <;> rfl
@[simp] theorem aug_s {m n : Int} {k l : Nat} : augR i gAddI (some (k, .int m)) (some (l, .int n)) ρ = if i < ρ.length then some (.nx, ρ.set i (some (0, .int (m + n)))) else none := (rfl)
def retB : Option W → Env → Option (Fl × Env)
  | some w, ρ => some (.rt w, ρ)
  | none, _ => none
def retR : Option Arg → Env → Option (Fl × Env)
  | some (.v k d), ρ => some (.rt (k, d), ρ)
  | some (.r i), ρ => retB (ρ[i]?.join) ρ
  | none, _ => none
@[simp] theorem r_ret : sRet A ρ = retR (A ρ) ρ := by
  unfold sRet retR
  rcases A ρ with _ | a
  · rfl
  · cases a with
    | v k d => rfl
    | r i =>
      show ((ρ[i]?).join).map _ = retB _ _
      unfold retB
      cases ρ[i]?.join <;> rfl
@[simp] theorem ret_v : retR (some (.v k d)) ρ = some (.rt (k, d), ρ) := rfl
@[simp] theorem ret_r : retR (some (.r i)) ρ = retB (ρ[i]?.join) ρ := rfl
@[simp] theorem retB_s : retB (some w) ρ = some (.rt w, ρ) := rfl
def parR (is : List Nat) : Option (List Arg) → Env → Option (Fl × Env)
  | some as, ρ => (match putAll is as ρ with | some ρ' => some (.nx, ρ') | none => none)
  | none, _ => none
@[simp] theorem r_par {is : List Nat} {B : Fa} : sPar is B ρ = parR is (B ρ) ρ := by
  unfold sPar parR
  rcases B ρ with _ | as
  · rfl
  · dsimp only [Option.bind_some]
    cases putAll is as ρ <;> rfl
def cR : Option Arg → Option (List Arg) → Option (List Arg)
  | some a, some as => some (a :: as)
  | _, _ => none
@[simp] theorem a_nl : aNil ρ = some [] := rfl
@[simp] theorem a_cn {B : Fa} : aCons A B ρ = cR (A ρ) (B ρ) := by
  unfold aCons cR
  rcases A ρ with _ | a
  · rfl
  · dsimp only [Option.bind_some]
    cases B ρ <;> rfl
@[simp] theorem cR_s {a : Arg} {as : List Arg} : cR (some a) (some as) = some (a :: as) := rfl
@[simp] theorem par_2 {k1 k2 : Nat} {d1 d2 : D} : parR [i, j] (some [.v k1 d1, .v k2 d2]) ρ = if i < ρ.length ∧ j < ρ.length then some (.nx, (ρ.set i (some (k1, d1))).set j (some (k2, d2))) else none := by
  unfold parR putAll putArg
  by_cases h1 : i < ρ.length
  · by_cases h2 : j < ρ.length
    · simp [h1, h2, putAll, putArg]
    · simp [h1, h2, putAll, putArg]
  · simp [h1]
def forR (t : Tg) (f : Fs) : Option (List D) → Env → Option (Fl × Env)
  | some ds, ρ => loopF t f ds ρ
  | none, _ => none
@[simp] theorem r_for {it : Fit} {t : Tg} : sFor it t f ρ = forR t f (it ρ) ρ := by
  unfold sFor forR
  cases it ρ <;> rfl
@[simp] theorem for_s {t : Tg} {ds : List D} : forR t f (some ds) ρ = loopF t f ds ρ := rfl
def seqR : Option Arg → Option (List D)
  | some (.v _ d) => (seqD d).map (·.2)
  | _ => none
@[simp] theorem i_sq : iSeq A ρ = seqR (A ρ) := by
  unfold iSeq seqR
  rcases A ρ with _ | a
  · rfl
  · cases a <;> rfl
@[simp] theorem seq_s : seqR (some (.v k d)) = (seqD d).map (·.2) := rfl
def rngR : Option W → Option (List D)
  | some (_, .int n) => if -1000000000 ≤ n ∧ n ≤ 1000000000 then some (rngD 0 n.toNat) else none
  | _ => none
@[simp] theorem i_rg : iRange1 A ρ = rngR (val A ρ) := by
  unfold iRange1 rngR
  rcases val A ρ with _ | ⟨k, d⟩
  · rfl
  · cases d <;> rfl
@[simp] theorem rng_s {n : Int} : rngR (some (k, .int n)) = if -1000000000 ≤ n ∧ n ≤ 1000000000 then some (rngD 0 n.toNat) else none := (rfl)
def frzR (i : Nat) (f : Fs) : Option W → Env → Option (Fl × Env)
  | some w, ρ => f (ρ.set i (some (0, w.2)))
  | none, _ => none
@[simp] theorem r_frz : bFrz i f ρ = frzR i f (ρ[i]?.join) ρ := by
  unfold bFrz frzR
  cases ρ[i]?.join <;> rfl
@[simp] theorem frz_s : frzR i f (some w) ρ = f (ρ.set i (some (0, w.2))) := rfl
/-! defs -/
def finR : Option (Fl × Env) → Option W
  | some (.rt w, _) => if cleanD w.1 w.2 = true then some w else none
  | some (.nx, _) => some (0, .non)
  | _ => none
theorem r_m {n k : Nat} {bd : Fs} {ds : List D} (h : ds.length = k) : mkM n k bd ds = finR (bd (initE n ds)) := by
  unfold mkM runB
  rw [if_pos h]
  rcases bd (initE n ds) with _ | ⟨fl, ρ⟩
  · rfl
  · cases fl <;> rfl
@[simp] theorem fin_rt : finR (some (.rt w, ρ)) = if cleanD w.1 w.2 = true then some w else none := (rfl)
@[simp] theorem fin_nx : finR (some (.nx, ρ)) = some (0, .non) := rfl
def stepL (t : Tg) (f : Fs) (ds : List D) : Option (Fl × Env) → Option (Fl × Env)
  | some (.nx, ρ) => loopF t f ds ρ
  | some (.ct, ρ) => loopF t f ds ρ
  | some (.bk, ρ) => some (.nx, ρ)
  | some (.rt w, ρ) => some (.rt w, ρ)
  | none => none
theorem l_nil {t : Tg} : loopF t f [] ρ = some (.nx, ρ) := rfl
def bindR (t : Tg) (f : Fs) (ds : List D) : Option Env → Option (Fl × Env)
  | some ρ => stepL t f ds (f ρ)
  | none => none
theorem l_cons {t : Tg} {ds : List D} : loopF t f (d :: ds) ρ = bindR t f ds (bindT t (0, d) ρ) := by
  unfold bindR
  show (bindT t (0, d) ρ).bind _ = _
  rcases bindT t (0, d) ρ with _ | ρ1
  · rfl
  · unfold stepL
    dsimp only [Option.bind_some]
    rcases f ρ1 with _ | ⟨fl, ρ2⟩
    · rfl
    · cases fl <;> rfl
theorem bindR_s {t : Tg} {ds : List D} : bindR t f ds (some ρ) = stepL t f ds (f ρ) := rfl
theorem step_nx {t : Tg} {ds : List D} : stepL t f ds (some (.nx, ρ)) = loopF t f ds ρ := rfl
theorem step_rt {t : Tg} {ds : List D} : stepL t f ds (some (.rt w, ρ)) = some (.rt w, ρ) := rfl
theorem bind_nm : bindT (.nm i) w ρ = if i < ρ.length then some (ρ.set i (some w)) else none := rfl
end
end Pv
set_option Elab.async false
set_option linter.all false
set_option maxRecDepth 100000
/-! P22: how the data run: walks, dicts, comprehensions -/
namespace Pv
open PySem
section
variable {ρ ρ1 : Env} {A B C : Fe} {T U : Fb} {f g : Fs} {i j n k : Nat} {d c : D} {w u v : W} {t : Tg}
def zipQ : Option (Bool × List D) → Option (Bool × List D) → Option (List D)
  | some p, some q => some (zipF p.2 q.2)
  | _, _ => none
def zipR : Option Arg → Option Arg → Option (List D)
  | some (.v _ d), some (.v _ c) => zipQ (seqD d) (seqD c)
  | _, _ => none
@[simp] theorem i_zp : iZip A B ρ = zipR (A ρ) (B ρ) := by
  unfold iZip
  rw [a_cn, a_cn, a_nl]
  unfold cR zipR
  rcases A ρ with _ | a
  · rfl
  · rcases B ρ with _ | b
    · cases a <;> rfl
    · cases a with
      | r x => rfl
      | v k d =>
        cases b with
        | r y => rfl
        | v j c =>
          show ((seqD d).bind fun p => (seqD c).map fun q => zipF p.2 q.2) = zipQ (seqD d) (seqD c)
          unfold zipQ
          cases seqD d with
          | none => rfl
          | some p => cases seqD c <;> rfl
@[simp] theorem zip_s : zipR (some (.v j d)) (some (.v k c)) = zipQ (seqD d) (seqD c) := rfl
@[simp] theorem zipQ_s {p q : Bool × List D} : zipQ (some p) (some q) = some (zipF p.2 q.2) := rfl
def enQ : Option (Bool × List D) → Option (List D)
  | some p => some (enumF 0 p.2)
  | none => none
def enR : Option Arg → Option (List D)
  | some (.v _ d) => enQ (seqD d)
  | _ => none
@[simp] theorem i_en : iEnum A ρ = enR (A ρ) := by
  unfold iEnum
  rw [a_cn, a_nl]
  unfold cR enR
  rcases A ρ with _ | a
  · rfl
  · cases a with
    | r x => rfl
    | v k d =>
      show ((seqD d).map fun p => enumF 0 p.2) = enQ (seqD d)
      unfold enQ
      cases seqD d <;> rfl
@[simp] theorem en_s : enR (some (.v j d)) = enQ (seqD d) := rfl
@[simp] theorem enQ_s {p : Bool × List D} : enQ (some p) = some (enumF 0 p.2) := rfl
/-! dicts, items -/
def putR (i : Nat) : Option Arg → Option W → Option W → Env → Option (Fl × Env)
  | some (.v _ d), some (1, .dct t kvs), some u, ρ => if kvs.length < big then (match keyD t u.2 with | some ks => some (.nx, ρ.set i (some (1, .dct t (putD kvs ks d)))) | none => none) else none
  | _, _, _, _ => none
@[simp] theorem r_put : sPut i B A ρ = putR i (A ρ) (ρ[i]?.join) (val B ρ) ρ := by
  unfold sPut putR
  rcases A ρ with _ | a
  · rfl
  · cases a with
    | r x => rfl
    | v k d =>
      dsimp only [Option.bind_some]
      rcases ρ[i]?.join with _ | ⟨k2, d2⟩
      · rfl
      · dsimp only [Option.bind_some]
        split
        · rename_i h
          cases h
          rcases val B ρ with _ | u
          · rfl
          · dsimp only [Option.bind_some]
            split
            · rename_i hz
              simp only [hz, if_true]
              cases keyD _ u.2 <;> rfl
            · rename_i hz
              simp only [hz, if_false]
        · rename_i h
          split
          · rename_i h1 h2 h3 h4
            cases h3
            exact absurd rfl (h _ _)
          · rfl
@[simp] theorem put_s {t : Bool} {kvs : List (List L2.Key × D)} {ks : List L2.Key} {l : Nat} {x : D} (h : keyD t x = some ks) : putR i (some (.v j d)) (some (1, .dct t kvs)) (some (l, x)) ρ = if kvs.length < big then some (.nx, ρ.set i (some (1, .dct t (putD kvs ks d)))) else none := by
  show (if kvs.length < big then (match keyD t x with | some ks => some (Fl.nx, ρ.set i (some (1, .dct t (putD kvs ks d)))) | none => none) else none) = _
  rw [h]
def setR (i : Nat) : Option Arg → Option W → Option W → Env → Option (Fl × Env)
  | some (.v _ d), some (1, .lst ds), some (_, .int n), ρ => (match setAt ds n d with | some ds' => some (.nx, ρ.set i (some (1, .lst ds'))) | none => none)
  | _, _, _, _ => none
theorem r_set {ds : List D} {m : Int} (h1 : A ρ = some (.v j d)) (h2 : ρ[i]?.join = some (1, .lst ds)) (h3 : val B ρ = some (k, .int m)) {ds' : List D} (h4 : setAt ds m d = some ds') : sSet i B A ρ = some (.nx, ρ.set i (some (1, .lst ds'))) := by
  unfold sSet
  rw [h1]
  dsimp only [Option.bind_some]
  rw [h2]
  dsimp only [Option.bind_some]
  rw [h3]
  show Option.map _ (setAt ds m d) = _
  rw [h4]
  rfl
def kg2R (kc : List (Str × D)) : Option W → Option Arg → Option Arg
  | some (_, .str z), some (.v _ d) => some (.v 0 ((kget kc z).getD d))
  | _, _ => none
@[simp] theorem r_kg2 {kc : List (Str × D)} : pKGet2 kc B C ρ = kg2R kc (val B ρ) (C ρ) := by
  unfold pKGet2 kg2R
  rcases val B ρ with _ | ⟨k, d⟩
  · rfl
  · dsimp only [Option.bind_some]
    rcases C ρ with _ | c
    · cases d <;> rfl
    · cases d <;> cases c <;> rfl
@[simp] theorem kg2_s {kc : List (Str × D)} {z : Str} : kg2R kc (some (j, .str z)) (some (.v k d)) = some (.v 0 ((kget kc z).getD d)) := rfl
/-! comprehensions -/
theorem compL_of {X : D → D} {p : D → Bool} : ∀ {ds : List D}, (∀ d ∈ ds, ∃ ρ1, bindT t (0, d) ρ = some ρ1 ∧ T ρ1 = some (p d) ∧ (p d = true → ∃ k, A ρ1 = some (.v k (X d)))) → compL t T A 0 ρ ds = some ((ds.filter p).map X)
  | [], _ => rfl
  | d :: ds, h => by
    have ih := compL_of (X := X) (p := p) (ds := ds) fun d' hd => h d' (List.mem_cons_of_mem _ hd)
    obtain ⟨ρ1, h1, h2, h3⟩ := h d List.mem_cons_self
    show ((bindT t (0, d) ρ).bind _) = _
    rw [h1]
    dsimp only [Option.bind_some]
    rw [h2]
    dsimp only [Option.bind_some]
    cases hp : p d with
    | true =>
      obtain ⟨k, h4⟩ := h3 hp
      rw [if_pos rfl, h4]
      dsimp only [Option.bind_some]
      rw [if_pos (by rfl), ih, List.filter_cons_of_pos hp]
      rfl
    | false =>
      rw [if_neg Bool.false_ne_true, ih, List.filter_cons_of_neg (by rw [hp]; exact Bool.false_ne_true)]
theorem r_lc {it : Fit} {vs : List Nat} {ds out : List D} (h0 : (vs.all fun v => lvl0 ρ[v]?) = true) (h1 : it ρ = some ds) (h2 : ds.length ≤ big) (h3 : compL t T A 0 (wipeE ρ vs) ds = some out) : pLc 0 it t vs T A ρ = some (.v 1 (.lst out)) := by
  unfold pLc
  rw [if_pos h0, h1]
  dsimp only [Option.bind_some]
  rw [if_pos h2, h3]
  rfl
theorem v_lc {it : Fit} {vs : List Nat} {ds out : List D} (h0 : (vs.all fun v => lvl0 ρ[v]?) = true) (h1 : it ρ = some ds) (h2 : ds.length ≤ big) (h3 : compL t T A 0 (wipeE ρ vs) ds = some out) : val (pLc 0 it t vs T A) ρ = some (1, .lst out) := by
  unfold val
  rw [r_lc h0 h1 h2 h3]; rfl
def lcI : Option W → Option (List D)
  | some (k, .lst ds) => if k ≤ 1 then some ds else none
  | _ => none
@[simp] theorem i_lc : iLc A ρ = lcI (val A ρ) := by
  unfold iLc lcI
  rcases val A ρ with _ | ⟨k, d⟩
  · rfl
  · cases d <;> rfl
@[simp] theorem lcI_s {ds : List D} : lcI (some (k, .lst ds)) = if k ≤ 1 then some ds else none := (rfl)
/-- the turns that a while takes -/
theorem w_stop {m : Nat} (h : T ρ = some false) : loopW T f (m + 1) ρ = some (.nx, ρ) := by
  show (T ρ).bind _ = _
  rw [h]; rfl
theorem w_go {m : Nat} (h : T ρ = some true) (h2 : f ρ = some (.nx, ρ1)) : loopW T f (m + 1) ρ = loopW T f m ρ1 := by
  show (T ρ).bind _ = _
  rw [h]
  dsimp only [Option.bind_some]
  rw [if_pos rfl, h2]
  rfl
end
end Pv
set_option Elab.async false
set_option linter.all false
set_option maxRecDepth 100000
/-! P23: list.count, d.get(k) -/
namespace Pv
open PySem PySem.Spec PyProof.Rows L2
section
variable {X : Cx} {K : PySem.W.Frag} {G0 G G1 G' H H' : Hp} {σ : L2.St} {ρ : Env} {ws : List (V × Arg)} {F F1 F2 : List Addr} {e a b c tg : Expr} {es : List Expr} {pos : Pos} {A B C : Fe}
theorem bmL_imp {r : V → List V → Hp → VK → Prop} {T : String} {g : W → W → Option W} (hg : Op2 K (fun x y H Q => r x [y] H Q) g) (hr : ∀ G H u v x F w, Same G H → RO K G H u.1 u.2 x F → g u v = some w → tyV K T x H) (σ : L2.St) (H : Hp) (Q : VK) (h : tE K (pOp2 g A B) σ H Q) : tBM K T r (tE K A) (tA K (aCons B aNil)) σ H Q := by
  obtain ⟨G0, ρ, ws, a, I, hf, q⟩ := h
  obtain ⟨u, hu, hf⟩ := Option.bind_eq_some_iff.mp hf
  obtain ⟨v, hv, hf⟩ := Option.bind_eq_some_iff.mp hf
  obtain ⟨w, hw, rfl⟩ := Option.map_eq_some_iff.mp hf
  obtain ⟨a1, ha, hg1⟩ := val_some hu
  obtain ⟨a2, hb, hg2⟩ := val_some hv
  refine ⟨G0, ρ, ws, a1, I, ha, fun x H1 I1 => ⟨?_, G0, ρ, (x, a1) :: ws, [a2], I1, by simp [aCons, aNil, hb], fun vs H2 hl I2 => ?_⟩⟩
  · obtain ⟨G, F1, F2, J⟩ := I1
    obtain ⟨Fx, rx⟩ := J.top hg1
    exact hr G H1 u v x Fx w J.ex rx hw
  · match vs, hl, I2 with
    | [y], _, I2 =>
      obtain ⟨G, F1, F2, J⟩ := I2
      obtain ⟨Fy, ry⟩ := Si.top (ws := (x, a1) :: ws) J hg2
      obtain ⟨Fx, rx⟩ := Si.next (ws := ws) J hg1
      refine hg G H2 u v x y Fx Fy w J.ex rx ry hw Q fun z H' G' F' gr rv => ?_
      obtain ⟨F2', _, J'⟩ := Si.drop (ws := (x, a1) :: ws) J
      obtain ⟨F3', _, J''⟩ := Si.drop (ws := ws) J'
      exact q z H' (J''.push gr rv).SI
/-! ### xs.count(x) -/
def rLCountD (K : PySem.W.Frag) : V → List V → Hp → VK → Prop := fun x xs H Q => ∃ (a : Addr) (zs : List V) (y : V) (d : PyData) (ds : List PyData), x = V.ref a ∧ xs = [y] ∧ SqL K H a zs ∧ DpAll K H zs ds ∧ Dp K H y d ∧
  SeqAt.shaped (.tuple ds) = true ∧ SeqAt.shaped d = true ∧ Q (.int ((ds.countP fun z => PyData.eqv z d : Nat))) H
theorem mt_lcountD (hu : X.A.units + 65 < cLine) : MtR X "list.count" (rLCountD X.K) := by
  intro pins s σ H x xs v us Q I rx rxs h
  obtain ⟨a, zs, y, d, ds, rfl, rfl, hs, ha, hy, sl, sd, q⟩ := h
  cases rx
  cases rxs with
  | cons ry rt =>
    rename_i uy ut
    cases rt
    obtain ⟨bs, r1⟩ := Dp.reads I d y uy hy ry
    have hxs : PyData.canLayAll0 ds = true := SeqAt.canLay_of_shaped sl
    have hroom : X.A.units + 1 + min (PyData.depthAll ds) d.depth < cLine := room_in_shaped sd hu
    obtain ⟨its, rv, ⟨⟨cls, dd, data, sls⟩, n, ho, hc, hdn, hdt⟩, hlen⟩ := I.list hs
    simp only at hc hdt
    subst hc hdt
    obtain ⟨as, h4⟩ := Dp.readsAll I ds _ its ha rv
    have hmap : its.map (SeqAt.readOf s.heap) = ds := SeqAt.readsAll_map ds its as hxs h4
    have ec : its.toArray.toList.countP (fun u => PyData.eqv (SeqAt.readOf s.heap u) d) = ds.countP fun z => PyData.eqv z d := by
      show its.countP _ = _
      rw [← hmap, List.countP_map]; rfl
    refine call_meets PySem.F.slot_list_count ⟨_, ho, rfl⟩ PySem.F.entry_list_count (PySem.F.args_list_count_2 _ _)
      (SeqAt.list_countAt a its.toArray n dd sls uy (fun u => PyData.eqv (SeqAt.readOf s.heap u) d)) ⟨ho, SeqAt.items_eqAt (vs := its.toArray) (show ReadsAll s.heap its.toArray.toList ds as from h4) r1 hxs (SeqAt.canLay_of_shaped sd) hroom, ?_⟩
    rw [ec]
    exact ⟨.int _, H, I.tok _, ⟨_, rfl⟩, q⟩
def gCount : W → W → Option W
  | (k, .lst ds), (j, d) => if k ≤ 1 ∧ eqOk (j, d) = true then (toPys ds).bind fun ps => (toPy d).bind fun p => if SeqAt.shaped (.tuple ps) = true ∧ SeqAt.shaped p = true then some (0, .int ((ps.countP fun z => PyData.eqv z p : Nat))) else none else none
  | _, _ => none
theorem g_count : Op2 K (fun x y H Q => rLCountD K x [y] H Q) gCount := by
  intro G H u v x y Fu Fv w e ru rv hw
  unfold gCount at hw
  split at hw
  · split at hw
    · rename_i hk
      obtain ⟨ps, hps, hw⟩ := Option.bind_eq_some_iff.mp hw
      obtain ⟨p, hp, hw⟩ := Option.bind_eq_some_iff.mp hw
      split at hw
      · rename_i ok
        cases hw
        obtain ⟨a, xs, rfl, h1, h2⟩ := ru.lst1 e hk.1
        exact Res.pure (v := .int _) e rfl fun Q q => ⟨a, xs, y, p, ps, rfl, rfl, SqL.of h1, dps_of e _ ps xs hps h2, dp_ro e hk.2 hp rv, ok.1, ok.2, q⟩
      · cases hw
    · cases hw
  · cases hw
theorem e_count {apos cpos : Pos} (hu : X.A.units + 65 < cLine) (ha : OkE X a A) (hb : OkE X b B) (hfew : ((backTo cpos (starEach (b :: []) X.env)).all (fun x => !x.1) && (backToKw cpos (keywordEach [] X.env)).all (fun x => x.1.isSome)
      && decide ((b :: []).length + ([] : List Keyword).length + (if ([] : List Keyword).isEmpty then 0 else 1) < 30)) = true := by rfl) (hbase : attributeBase a "count" X.env (eval a X.env) = eval a X.env := by rfl)
    (hline : (apos.endLine == cpos.line) = true := by rfl) (hs : starEach (b :: []) X.env = (false, eval b X.env) :: starEach [] X.env := by rfl) : OkE X (.Call (.Attribute a "count" apos) [b] [] cpos) (pOp2 gCount A B) :=
  PE.imp (pe_bm PySem.F.plainAttrs_list PySem.F.slot_list_count PySem.F.type_list_count (mt_lcountD hu) ha (a_cons hb a_nil hs) hbase hfew hline hs (by rfl)) (bmL_imp g_count fun G H u v x F w e ru hw => by
    unfold gCount at hw
    split at hw
    · split at hw
      · rename_i hk
        obtain ⟨a, xs, rfl, h1, h2⟩ := ru.lst1 e hk.1
        exact .inl ⟨rfl, _, SqL.of h1⟩
      · cases hw
    · cases hw)
/-! ### d.get(k) -/
def gDGet1 : W → W → Option W
  | (k, .dct t kvs), (_, d) => if k ≤ 1 then (keyD t d).map fun ks => (0, (valD kvs ks).getD .non) else none
  | _, _ => none
theorem e_dget1 {apos cpos : Pos} (hu : X.A.units + 1 < cLine) (ha : OkE X a A) (hb : OkE X b B) (m : M1 X a "get" apos b cpos := by exact ⟨rfl, rfl, rfl, rfl⟩) : OkE X (.Call (.Attribute a "get" apos) [b] [] cpos) (pOp2 gDGet1 A B) :=
  PE.imp (pe_dget1 hu ha hb m) fun σ H Q ⟨G0, ρ, ws, x, I, hf, q⟩ => by
  obtain ⟨⟨k, du⟩, hu, hf1⟩ := Option.bind_eq_some_iff.mp hf
  obtain ⟨v, hv, hf2⟩ := Option.bind_eq_some_iff.mp hf1
  obtain ⟨w, hw, rfl⟩ := Option.map_eq_some_iff.mp hf2
  clear hf hf1 hf2
  cases du <;> first | (cases hw; done) | skip
  rename_i t kvs
  unfold gDGet1 at hw
  simp only at hw
  split at hw
  · rename_i hk
    obtain ⟨ks, hks, rfl⟩ := Option.map_eq_some_iff.mp hw
    obtain ⟨a1, ha, hg1⟩ := val_some hu
    obtain ⟨a2, hb, hg2⟩ := val_some hv
    refine ⟨G0, ρ, ws, a1, I, ha, fun x1 H1 I1 => ?_⟩
    have hx1 : ∃ p, x1 = .ref p ∧ IsD H1 p := by
      obtain ⟨G, F1, F2, J⟩ := I1
      obtain ⟨Fx, rx⟩ := J.top hg1
      obtain ⟨p, xs, rfl, h1, _⟩ := rx.dct1 J.ex hk
      cases t
      · exact ⟨p, rfl, .inl ⟨_, (h1 : Rd _ _ (.dK _))⟩⟩
      · exact ⟨p, rfl, .inr ⟨_, (h1 : Rd _ _ (.dT _))⟩⟩
    obtain ⟨p, rfl, hp⟩ := hx1
    refine ⟨p, rfl, hp, G0, ρ, (V.ref p, a1) :: ws, a2, I1, hb, fun y H2 I2 => ?_⟩
    obtain ⟨G, F1, F2, J⟩ := I2
    obtain ⟨Fy, ry⟩ := Si.top (ws := (V.ref p, a1) :: ws) J hg2
    obtain ⟨F4, _, J2⟩ := Si.drop (ws := (V.ref p, a1) :: ws) J
    obtain ⟨Fx, rx⟩ := Si.top (ws := ws) J2 hg1
    obtain ⟨F5, _, J3⟩ := Si.drop (ws := ws) J2
    obtain ⟨p', xs, ep, h1, h2, h3⟩ := rx.dct1 J3.ex hk
    cases ep
    refine ⟨_, dget_rep J3.ex h1 h2 hks ry, ?_⟩
    cases hd : valD kvs ks with
    | none =>
      rw [hd] at q
      rw [valD_none h3 hd]
      exact q _ _ (J3.pushF (d := .non) rfl).SI
    | some d =>
      rw [hd] at q
      obtain ⟨w, hw, rw'⟩ := valD_some h3 hd
      rw [hw]
      exact q _ _ (J3.pushF rw').SI
  · cases hw
end
end Pv
set_option Elab.async false
set_option linter.all false
set_option maxRecDepth 100000
/-! P24: x[i] op= e on own lists; a, b = x.pop() -/
namespace Pv
open PySem PySem.Spec PyProof.Rows L2
section
variable {X : Cx} {K : PySem.W.Frag} {G0 G G1 G' H H' : Hp} {σ : L2.St} {ρ : Env} {ws : List (V × Arg)} {F F1 F2 : List Addr} {e a b c tg : Expr} {es : List Expr} {pos : Pos} {A B C : Fe}
theorem get_listR : PGet X (rIxL X.K) := by
  intro pins s σ H x y v u Q I rx ry h
  obtain ⟨p, xs, i, z, rfl, rfl, hq, he, q⟩ := h
  cases rx
  obtain ⟨t, rfl⟩ := ry
  obtain ⟨its, r, pl, hz⟩ := I.list hq
  obtain ⟨j, h1, h2, h3, h4, h5⟩ := atI_get he
  obtain ⟨w, ew, rw'⟩ := r.get h2
  have hl := r.length
  have hn := line63
  have fin : EP X pins σ Q w s := ⟨z, H, I, rw', q⟩
  by_cases h0 : 0 ≤ i
  · have hj : i.toNat = j := by
      rw [seqIndex_of h0 h5] at h1
      exact Option.some.inj h1
    exact wpAny_getItem_list pl.isList h0 (by omega) (by rw [hj]; simpa using ew) fin
  · have hj : (i + (its.toArray.size : Int)).toNat = j := by
      rw [seqIndex_neg (by omega) h4] at h1
      rw [List.size_toArray, ← hl]
      exact Option.some.inj h1
    exact wpAny_getItem_list_neg pl.isList (by omega) (by rw [List.size_toArray] <;> omega) (by omega) (by rw [hj]; simpa using ew) fin
/-- x[j] op= e, x in slot i a list of frozen items, the item and e whole numbers -/
def sAugIx (i : Nat) (g : Int → Int → Int) (B A : Fe) : Fs := fun ρ => ((ρ[i]?).join).bind fun w => match w with
  | (1, .lst ds) => (val B ρ).bind fun u => match u.2 with
    | .int n => (val A ρ).bind fun v => match atI ds n, v.2 with
      | some (.int o), .int m => (setAt ds n (.int (g o m))).map fun ds' => (.nx, ρ.set i (some (1, .lst ds')))
      | _, _ => none
    | _ => none
  | _ => none
theorem s_augIx {i : Nat} {g : Int → Int → Int} {op : Operator} {x : Str} {p tpos : Pos} (hp : PIp X op (ipI g)) (he : OkE X e A) (hb : OkE X b B) (hN : X.N[i]? = some x := by rfl) (hv : Vis X.env.scope x := by first | exact Or.inl rfl | exact Or.inr (Or.inl rfl) | exact Or.inr (Or.inr rfl)) (hd : (x == ("__debug__" : Str)) = false := by decide) (hcd : (x == ("__classdict__" : Str)) = false := by decide)
    (has : ∀ ov iv new, augStore b ov iv new = (do holding [new, ov, iv] (setItem ov iv new); release [new, ov, iv] []; pure Flow.next) := by intros; rfl) :
    OkS X (.AugAssign (.Subscript (.Name x p) b tpos) op e pos) (sAugIx i g B A) := PS.imp (ps_augS (pe_var hN hv hd hcd) hb get_listR he hp set_list has) fun D σ H ⟨G0, ρ, fl, ρ', I, hf, post⟩ => by
  obtain ⟨w, hw, hf⟩ := Option.bind_eq_some_iff.mp hf
  split at hf
  · rename_i ds
    obtain ⟨u, hu, hf⟩ := Option.bind_eq_some_iff.mp hf
    obtain ⟨l, c⟩ := u
    cases c <;> first | (cases hf; done) | skip
    rename_i n
    obtain ⟨v, hv', hf⟩ := Option.bind_eq_some_iff.mp hf
    obtain ⟨l2, c2⟩ := v
    split at hf
    · rename_i o m hat e2
      simp only at e2
      obtain ⟨ds', hds, hf⟩ := Option.map_eq_some_iff.mp hf
      cases hf
      obtain ⟨j, hj, rfl⟩ := Option.map_eq_some_iff.mp hds
      obtain ⟨a2, ha2, hg2⟩ := val_some hu
      obtain ⟨a3, ha3, hg3⟩ := val_some hv'
      have hρ := join_some hw
      have hx : ∃ p, σ[i]? = some (some (.ref p)) := by
        obtain ⟨G, F1, F2, J⟩ := I
        obtain ⟨v, Fi, h1, h2, _⟩ := J.sl.at hρ
        obtain ⟨p, xs, rfl, h3, _⟩ := RO.lstN J.ex h2
        exact ⟨p, h1⟩
      obtain ⟨p, hp'⟩ := hx
      refine ⟨.ref p, hp', G0, ρ, [], a2, I, ha2, fun z H2 I2 => ?_⟩
      obtain ⟨G, F1, F2, J⟩ := I2
      obtain ⟨Fz, rz⟩ := J.top hg2
      obtain rfl := RO.int rz
      obtain ⟨F3, _, J1⟩ := J.drop
      obtain ⟨v, Fa, Fi, Fb, e1, h1, h2, h3⟩ := J1.slot hρ
      rw [hp'] at h1
      cases h1
      obtain ⟨p', xs, F', q0, h4, rfl, h5⟩ := h2
      cases q0
      obtain ⟨h6, h7⟩ := ROs.to_F h5
      obtain ⟨y, hy, ry⟩ := atI_rep h6 hat
      have ry : y = .int o := ry
      subst ry
      refine ⟨p, xs, n, _, rfl, rfl, SqL.of h4, hy, G0, ρ, [], a3, J1.SI, ha3, fun z H3 I3 => ?_⟩
      obtain ⟨G3, F13, F23, J3⟩ := I3
      obtain ⟨Fz3, rz3⟩ := J3.top hg3
      rw [e2] at rz3
      obtain rfl := RO.int rz3
      obtain ⟨F33, _, J4⟩ := J3.drop
      refine ⟨o, m, rfl, rfl, ?_⟩
      obtain ⟨v, Fa, Fi, Fb, e1, h1, h2, h3⟩ := J4.slot hρ
      rw [hp'] at h1
      cases h1
      obtain ⟨p', xs, F', q0, h4, rfl, h5⟩ := h2
      cases q0
      subst e1
      obtain ⟨h6, h7⟩ := ROs.to_F h5
      subst h7
      refine ⟨p, xs, n, j, rfl, rfl, h4, by rw [h6.len]; exact hj, post _ _ ?_⟩
      exact SI.upd (w := (1, .lst ds)) (F'' := []) J4 trivial h3 List.nodup_nil (fun b hb => by cases hb) ⟨p, xs.set j (.int (g o m)), [], rfl, upd_same, rfl, ROs.of_F (RepFs.set (x := .int (g o m)) (y := .int (g o m)) rfl j h6)⟩
    · cases hf
  · cases hf
/-- t = x.pop(), t a tuple of names -/
def sPopT (i : Nat) (t : Tg) : Fs := fun ρ => match (ρ[i]?).join with
  | some (1, .lst ds) => (ds[ds.length - 1]?).bind fun d => (bindT t (0, d) (ρ.set i (some (1, .lst ds.dropLast)))).map fun ρ' => (.nx, ρ')
  | _ => none
theorem s_popT {i : Nat} {t : Tg} {x : Str} {p apos cpos : Pos} (hg : OkG X tg t) (hi : X.N[i]? = some x := by rfl) (hv : Vis X.env.scope x := by first | exact Or.inl rfl | exact Or.inr (Or.inl rfl) | exact Or.inr (Or.inr rfl)) (hd : (x == ("__debug__" : Str)) = false := by decide) (hcd : (x == ("__classdict__" : Str)) = false := by decide)
    (hline : (apos.endLine == cpos.line) = true := by rfl) (hs : swapsWithSole [tg] (.Call (.Attribute (.Name x p) "pop" apos) [] [] cpos) pos.line X.env = pure false := by rfl) (hw : swappedStores [tg] (.Call (.Attribute (.Name x p) "pop" apos) [] [] cpos) X.env = pure none := by rfl)
    (h1 : (assignEach [tg] X.env).map (·.2) = [assign tg X.env] := by rfl) : OkS X (.Assign [tg] (.Call (.Attribute (.Name x p) "pop" apos) [] [] cpos) pos) (sPopT i t) :=
  PS.imp (ps_asg (pe_bm0 PySem.F.plainAttrs_list PySem.F.slot_list_pop PySem.F.type_list_pop mt_pop (pe_var hi hv hd hcd) (by rfl) hline) hg hs hw h1) fun D σ H ⟨G0, ρ, fl, ρ', I, hf, post⟩ => by
  unfold sPopT at hf
  split at hf
  · rename_i ds hw
    obtain ⟨d, hd, hf1⟩ := Option.bind_eq_some_iff.mp hf
    clear hf
    obtain ⟨ρ1, hp, hf2⟩ := Option.map_eq_some_iff.mp hf1
    cases hf2
    obtain ⟨p, xs, y, h1, h2, h3, G, F1, F2, J, ry⟩ := pop_core I (join_some hw) hd
    refine ⟨.ref p, h1, .inl ⟨rfl, xs, SqL.of h2⟩, p, xs, y, rfl, rfl, h2, h3, ?_⟩
    exact ⟨G0, _, [], 0, d, _, rfl, (J.pushF ry).SI, hp, fun σ' _ I' => post σ' _ I'⟩
  · cases hf
end
end Pv
set_option Elab.async false
set_option linter.all false
set_option maxRecDepth 100000
/-! P25: {k: v for ..} -/
namespace Pv
open PySem PySem.Spec PyProof.Rows L2
section
variable {X : Cx} {K : PySem.W.Frag} {G0 G G1 G' H H' : Hp} {σ : L2.St} {ρ : Env} {ws : List (V × Arg)} {F F1 F2 : List Addr} {e a b c tg : Expr} {es : List Expr} {pos : Pos} {A B C : Fe}
theorem Si.topUpd {p : Addr} {o : HO} {k : Nat} {d d' : D} (J : Si K G0 σ ρ ((.ref p, .v k d) :: ws) H G F1 F2) (ho : isOwn o) (hr : ∀ Fl, RO K G H k d (.ref p) Fl → Fl = [p]) (hn : RO K G (upd H p o) k d' (.ref p) [p]) :
    Pv.SI K G0 σ ρ ((.ref p, .v k d') :: ws) (upd H p o) := by
  obtain ⟨Fl, Fw, e2, r, hw⟩ := J.wv
  obtain rfl := hr Fl r
  subst e2
  have nd := J.nd
  have fr := J.fr
  simp only [List.nodup_append, List.mem_append, List.nodup_cons, List.mem_cons, List.cons_append, List.nil_append] at nd
  obtain ⟨n1, ⟨n2, n3⟩, n4⟩ := nd
  have ne : ∀ b, b ∈ F1 ∨ b ∈ Fw → (upd H p o) b = H b := fun b hb => upd_ne fun z => by
    subst z
    rcases hb with hb | hb
    · exact n4 b hb b (.inl rfl) rfl
    · exact n2 hb
  have hp : G p = none := fr p (by simp)
  refine ⟨G, F1, [p] ++ Fw, J.ex0, fun b u q => ?_, RSl.mono (Same.refl _) _ _ _ (fun b hb => ne b (.inl hb)) J.sl, ⟨[p], Fw, rfl, hn, RWs.mono (Same.refl _) _ _ (fun b hb => ne b (.inr hb)) hw⟩, J.nd, fr, fun b u q1 q2 => ?_, J.ln⟩
  · rw [upd_ne (ne_of_none q hp)]; exact J.ex b u q
  · by_cases hb : b = p
    · subst hb; rw [upd_same] at q1; cases q1; exact absurd ho q2
    · rw [upd_ne hb] at q1; exact J.tu b u q1 q2
theorem Si.addPair {p : Addr} {k l : Nat} {acc : List (List Key × D)} {x u : D} {κ : Key} {y z : V} (hκ : keyK u = some κ) (I : Si K G0 σ ρ ((z, .v k x) :: (y, .v l u) :: (.ref p, .v 1 (.dct false acc)) :: ws) H G F1 F2) :
    ∃ kvs, y = kV κ ∧ H p = some (.dK kvs) ∧ kvs.length = acc.length ∧ Pv.SI K G0 σ ρ ((.ref p, .v 1 (.dct false (putD acc [κ] x))) :: ws) (upd H p (.dK (putK kvs κ z))) := by
  obtain ⟨G', F3, J1, e1, rz⟩ := I.freeze
  obtain ⟨Fy, ry⟩ := Si.top (ws := (V.ref p, .v 1 (.dct false acc)) :: ws) J1 (w := (l, u)) rfl
  obtain rfl := keyK_rep hκ ry
  obtain ⟨F4, _, J2⟩ := Si.drop (ws := (V.ref p, .v 1 (.dct false acc)) :: ws) J1
  obtain ⟨Fx, rx⟩ := Si.top (ws := ws) J2 (w := (1, .dct false acc)) rfl
  obtain ⟨p', xs, F', q0, h4, hok, rfl, h5⟩ := rx
  cases q0
  obtain ⟨h6, h7⟩ := ROk.to_F h5
  subst h7
  have hk : keyD false (kD κ) = some [κ] := by cases κ <;> rfl
  refine ⟨xs.map fun (q : List Key × V) => (q.1.headD (.inl 0), q.2), rfl, h4, by rw [List.length_map]; exact h6.len, ?_⟩
  rw [← put_head (hok rfl)]
  refine Si.topUpd (o := hoD false (putK xs [κ] z)) J2 (isOwn_hoD false _) (fun Fl r => ?_) ⟨p, _, [], rfl, upd_same, put_ok hk hok, rfl, ROk.of_F (put_rep h6 rz)⟩
  obtain ⟨p', xs', F', q0, h4', hok', rfl, h5'⟩ := r
  cases q0
  obtain ⟨_, h7'⟩ := ROk.to_F h5'
  rw [h7']
/-- what {a: b for t in ds if T} gives -/
def compD (t : Tg) (T : Fb) (A B : Fe) (ρ : Env) : List D → List (List Key × D) → Option (List (List Key × D))
  | [], acc => some acc
  | d :: ds, acc => (bindT t (0, d) ρ).bind fun ρ1 => (T ρ1).bind fun c => if c = true then (A ρ1).bind fun a => match a with
      | .v _ u => (keyK u).bind fun κ => (B ρ1).bind fun b => match b with
        | .v _ x => compD t T A B ρ ds (putD acc [κ] x)
        | .r _ => none
      | .r _ => none
    else compD t T A B ρ ds acc
def pDc (it : Fit) (t : Tg) (vs : List Nat) (T : Fb) (A B : Fe) : Fe := fun ρ => if (vs.all fun v => lvl0 ρ[v]?) = true then (it ρ).bind fun ds => if ds.length ≤ big then (compD t T A B (wipeE ρ vs) ds []).map fun r => .v 1 (.dct false r) else none else none
theorem putD_len1 (kvs : List (List Key × D)) (k : List Key) (d : D) : (putD kvs k d).length ≤ kvs.length + 1 := by
  unfold putD
  split
  · rw [List.length_map]; omega
  · rw [List.length_append]; exact Nat.le_refl _
theorem dc_imp {it : Fit} {t : Tg} {vs : List Nat} {T : Fb} (hsub : ∀ i ∈ slotsT t, i ∈ vs) (σ : L2.St) (H : Hp) (Q : VK) (h : tE K (pDc it t vs T A B) σ H Q) : tDc (tIc K it) (tG K t) (tT K T) (tE K A) (tE K B) vs σ H Q := by
  obtain ⟨G0, ρ, ws, a, I, hf, q⟩ := h
  unfold pDc at hf
  split at hf
  · rename_i hv
    obtain ⟨ds, hds, hf⟩ := Option.bind_eq_some_iff.mp hf
    split at hf
    · rename_i hbig
      obtain ⟨out, ho, rfl⟩ := Option.map_eq_some_iff.mp hf
      have hv' : ∀ v ∈ vs, plain0 ρ[v]? := fun v hm => lvl0_plain (List.all_eq_true.mp hv v hm)
      refine ⟨G0, ρ, ws, ds, I, hds, fun J H1 G1 e01 I1 items Dl hD => ?_⟩
      refine ⟨fun i m H => m = ds.length - i ∧ i ≤ ds.length ∧ ∃ acc, SI K G1 σ ρ ((.ref Dl, .v 1 (.dct false acc)) :: ws) H ∧ compD t T A B (wipeE ρ vs) (ds.drop i) acc = some out ∧ acc.length ≤ i, ⟨ds.length, rfl, Nat.zero_le _, [], ?_, ho, Nat.le_refl _⟩, ?_⟩
      · obtain ⟨G, F1, F2, S⟩ := I1
        have g := Grow.newO (o := .dK []) S.ex hD trivial
        exact (S.push (k := 1) (d := .dct false []) g ⟨Dl, [], [], rfl, upd_same, (fun _ p h => by cases h), rfl, rfl, rfl⟩).SI
      · rintro i m H2 ⟨rfl, hi, acc, I2, hc, hacc⟩
        by_cases hlt : i < ds.length
        · obtain ⟨G, F1, F2, S⟩ := I2
          refine .inr ⟨items.goes i G H2 hlt ⟨_, _, _, S⟩, ?_⟩
          rw [List.drop_eq_getElem_cons hlt] at hc
          obtain ⟨ρ1, hb1, hc⟩ := Option.bind_eq_some_iff.mp hc
          obtain ⟨b, hT, hc⟩ := Option.bind_eq_some_iff.mp hc
          refine ⟨fun H => ∃ acc, SI K G1 σ ρ ((.ref Dl, .v 1 (.dct false acc)) :: ws) H ∧ compD t T A B (wipeE ρ vs) (ds.drop (i + 1)) acc = some out ∧ acc.length ≤ i + 1, fun H' ⟨acc, h1, h2, h4⟩ => ⟨ds.length - (i + 1), by omega, rfl, hlt, acc, h1, h2, h4⟩, fun x H' y => ?_⟩
          obtain ⟨G', d, gr, hd, rd⟩ := items.yields i G H2 x H' hlt ⟨_, _, _, S⟩ y
          have ed : d = ds[i] := by rw [List.getElem?_eq_getElem hlt] at hd; exact (Option.some.inj hd).symm
          subst ed
          have S3 := S.grow gr
          have Sw : Si K G' (wipe σ vs) (wipeE ρ vs) ((.ref Dl, .v 1 (.dct false acc)) :: strip ws) H' G' F1 F2 :=
            ⟨Same.refl _, S3.ex, RSl.wiped σ ρ F1 S3.sl S3.ln hv', by exact RWs.strip (ws := (.ref Dl, .v 1 (.dct false acc)) :: ws) S3.wv, S3.nd, S3.fr, S3.tu, by rw [wipe_length, wipeE_len]; exact S3.ln⟩
          obtain ⟨b1, b2, b3⟩ := bindT_but t (0, ds[i]) _ ρ1 hb1
          have hl1 : ρ1.length = ρ.length := by rw [b1, wipeE_len]
          have p1 : ∀ k ∈ vs, plain0 ρ[k]? ∧ plain0 ρ1[k]? := fun k hk => ⟨hv' k hk, b3 rfl k (wipeE_in hk)⟩
          refine ⟨G', wipeE ρ vs, (.ref Dl, .v 1 (.dct false acc)) :: strip ws, 0, ds[i], ρ1, noRef_strip ws, (Sw.pushF rd).SI, hb1, fun σ' but I' => ⟨wipe_but but hsub, G', ρ1, _, b, I', hT, fun H3 I3 => ?_⟩⟩
          have hl2 : σ'.length = σ.length := by rw [but.1, wipe_length]
          have p2 : ∀ k, k ∉ vs → ρ1[k]? = ρ[k]? ∧ σ'[k]? = σ[k]? := fun k hk => ⟨by rw [b2 k (fun z => hk (hsub k z)), wipeE_out hk], by rw [but.2 k (fun z => hk (hsub k z)), wipe_out hk]⟩
          cases b with
          | false =>
            rw [if_neg Bool.false_ne_true] at hc
            refine iteF ?_
            obtain ⟨G5, F5, F6, S5⟩ := I3
            have S6 := Si.unwipe (pre := []) (ws := (.ref Dl, .v 1 (.dct false acc)) :: ws) S3 S5 rfl hl1 hl2 p1 p2
            exact ⟨acc, S6.SI, hc, Nat.le_succ_of_le hacc⟩
          | true =>
            rw [if_pos rfl] at hc
            refine iteT ?_
            obtain ⟨a, hA, hc⟩ := Option.bind_eq_some_iff.mp hc
            cases a with
            | r n => cases hc
            | v l u =>
              obtain ⟨κ, hκ, hc⟩ := Option.bind_eq_some_iff.mp hc
              obtain ⟨b, hB, hc⟩ := Option.bind_eq_some_iff.mp hc
              cases b with
              | r n => cases hc
              | v k xd =>
                simp only at hc
                refine ⟨G', ρ1, _, _, I3, hA, fun y4 H4 I4 => ⟨G', ρ1, _, _, I4, hB, fun z5 H5 I5 => ?_⟩⟩
                obtain ⟨G5, F5, F6, S5⟩ := I5
                have S6 := Si.unwipe (pre := [(z5, .v k xd), (y4, .v l u)]) (ws := (.ref Dl, .v 1 (.dct false acc)) :: ws) S3 S5 rfl hl1 hl2 p1 p2
                obtain ⟨kvs, hy, hx1, hx2, hx3⟩ := Si.addPair hκ S6
                refine ⟨kvs, κ, hy, hx1, ?_, putD acc [κ] xd, hx3, hc, Nat.le_trans (putD_len1 _ _ _) (Nat.succ_le_succ hacc)⟩
                rw [hx2]
                exact big_lt (by omega)
        · have ei : i = ds.length := by omega
          subst ei
          rw [List.drop_length] at hc
          cases hc
          obtain ⟨G, F1, F2, S⟩ := I2
          exact .inl ⟨items.stops G H2 ⟨_, _, _, S⟩, q _ H2 (S.SI.base e01)⟩
    · cases hf
  · cases hf
theorem e_dc {it : Fit} {t : Tg} {kx vx tg iter : Expr} {ifs : List Expr} {scope : Scope} {own : List (Str × Nat)} {T : Fb} (hc : X.calm = true) (hN : X.N.Nodup) (hi : OkIc X tg iter it) (ok : BlkOk X.N X.env.scope scope own)
    (hg : ∀ (s : Shared) (H : Hp) (C : Addr) (cl : List (Str × Addr)) (fp : List Addr), OkG (X.blk s H scope (compEnvC scope cl C X.env) fp) tg t) (ht : ∀ (s : Shared) (H : Hp) (C : Addr) (cl : List (Str × Addr)) (fp : List Addr), OkTs (X.blk s H scope (compEnvC scope cl C X.env) fp) ifs T)
    (hk : ∀ (s : Shared) (H : Hp) (C : Addr) (cl : List (Str × Addr)) (fp : List Addr), OkE (X.blk s H scope (compEnvC scope cl C X.env) fp) kx A)
    (he : ∀ (s : Shared) (H : Hp) (C : Addr) (cl : List (Str × Addr)) (fp : List Addr), OkE (X.blk s H scope (compEnvC scope cl C X.env) fp) vx B) (hsub : ∀ i ∈ slotsT t, i ∈ own.map (·.2) := by decide) (hs : ∀ x, foldedSetIterable iter X.env x = pure x := by intro _; rfl) :
    OkE X (.DictComp kx vx [⟨tg, iter, ifs, 0⟩] scope pos) (pDc it t (own.map (·.2)) T A B) := PE.imp (pe_dc (g := tG X.K t) (tt := tT X.K T) (tk := tE X.K A) (tv := tE X.K B) hc hN hi ok hg ht hk he hs) (dc_imp hsub)
end
end Pv
set_option Elab.async false
set_option linter.all false
set_option maxRecDepth 100000
/-! P26: list(zip(a, b)) -/
namespace Pv
open PySem PySem.Spec PyProof.Rows L2
section
variable {prog : Program} {w : World} {A : Around} {E : Value → Shared → Prop} {s : Shared} {z TI TO i1 i2 T : Addr} {fp1 fp2 : List Addr} {n1 n2 i : Nat} {P1 P2 : Nat → Value → Prop} {St1 St2 : Nat → Heap → Prop} {f : Bool} {oT : Obj}
theorem zipD2_item_held {Q : Value → Shared → Prop} (S : ZipSep2 z TI TO i1 i2 fp1 fp2) (D1 : Draws prog w A i1 fp1 n1 P1 St1) (D2 : Draws prog w A i2 fp2 n2 P2 St2)
    (hz : IsZipHeld s.heap z TI TO T f) (hT : s.heap.get? T = some oT) (hTI : IsTupOf2 s.heap TI (.ref i1) (.ref i2)) (st1 : St1 i s.heap) (st2 : St2 i s.heap) (hlt1 : i < n1) (hlt2 : i < n2)
    (hQ : ∀ x1 x2 h' tk, P1 i x1 → P2 i x2 → IsZipHeld h' z TI TO T true → St1 (i + 1) h' → St2 (i + 1) h' → IsTupOf2 h' s.heap.objs.size x1 x2 → h'.objs.size = s.heap.objs.size + 1 →
      (∀ c o, c ≠ z → c ≠ i1 → c ≠ i2 → s.heap.get? c = some o → h'.get? c = some o) → Q (.ref s.heap.objs.size) { s with heap := h', toks := tk }) :
    wpAny (model prog w) A (Builtin.«zip.__next__» ⟨[.ref z], []⟩) (fun fin s' => ∃ v, fin = .done (.ret v) ∧ Q v s') E s := by
  obtain ⟨hp, g, d, tk0, os⟩ := s
  show wpAny _ _ (field (.ref z) 2 >>= _) _ _ _
  refine wpAny_bind (wpAny_field hz rfl (x := .bool false) rfl ?_)
  show wpAny _ _ (field (.ref z) 3 >>= _) _ _ _
  refine wpAny_bind (wpAny_field hz rfl (x := .ref TI) rfl ?_)
  refine wpAny_bind (wpAny_seqItems hTI rfl ?_)
  show wpAny _ _ (Builtin.SmallTypes.ownedTupleIsFree (.ref z) >>= _) _ _ _
  refine wpAny_bind (wpAny_tupleHeld_zip hz hT fun h₁ hz₁ hs₁ => ?_)
  replace hs₁ : Heap.SameBut z hp h₁ := hs₁
  simp only [Bool.false_eq_true, if_false]
  refine wpAny_bind ?_
  rw [← Array.forIn_toList]
  simp only [List.forIn_cons, List.forIn_nil]
  refine wpAny_bind (wpAny_bind (wpAny_holding ?_))
  show wpAny _ _ (Builtin.SmallTypes.nextOf (.ref i1) >>= _) _ _ ⟨h₁, g, d, tk0, os⟩
  refine wpAny_bind (D1.item i _ _ _ hlt1 (D1.over st1 hs₁ S.zf1) fun x1 p1 tk1 hx1 sn1 hp1 => wpAny_pure ?_)
  replace hp1 : Heap.SameBut i1 h₁ p1 := hp1
  refine wpAny_pure ?_
  refine wpAny_bind (wpAny_bind (wpAny_holding ?_))
  show wpAny _ _ (Builtin.SmallTypes.nextOf (.ref i2) >>= _) _ _ ⟨p1, g, d, tk1, os⟩
  refine wpAny_bind (D2.item i _ _ _ hlt2 (D2.over (D2.over st2 hs₁ S.zf2) hp1 S.sep1_2) fun x2 p2 tk2 hx2 sn2 hp2 => wpAny_pure ?_)
  replace hp2 : Heap.SameBut i2 p1 p2 := hp2
  refine wpAny_pure (wpAny_pure ?_)
  show wpAny _ _ (newTuple [x1, x2] >>= _) _ _ ⟨p2, g, d, tk2, os⟩
  refine wpAny_bind (wpAny_newTuple ?_)
  have hsz : p2.objs.size = hp.objs.size := by rw [hp2.1, hp1.1, hs₁.1]
  have hz₃ : IsZipHeld p2 z TI TO T true := hp2.extBut _ _ S.zi2 (hp1.extBut _ _ S.zi1 hz₁)
  have hk : ∀ c o, c ≠ z → c ≠ i1 → c ≠ i2 → hp.get? c = some o → p2.get? c = some o := fun c o c1 c2 c3 e => hp2.extBut _ _ c3 (hp1.extBut _ _ c2 (hs₁.extBut _ _ c1 e))
  have hj1 : St1 (i + 1) p2 := D1.over sn1 hp2 S.sep2_1
  refine wpAny_pure ⟨_, rfl, ?_⟩
  show Q (.ref p2.objs.size) _
  have hp' : IsTupOf2 (p2.push { cls := .type "tuple", data := .seq #[x1, x2] }) p2.objs.size x1 x2 := Heap.get?_push_size _ rfl
  have hz4 : (p2.push { cls := .type "tuple", data := .seq #[x1, x2] }).objs.size = p2.objs.size + 1 := Heap.size_push ..
  rw [hsz] at hp' hz4 ⊢
  exact hQ x1 x2 _ tk2 hx1 hx2 (Heap.get?_push_of_some _ hz₃) (D1.frame _ _ _ hj1 fun b _ o e => Heap.get?_push_of_some _ e) (D2.frame _ _ _ sn2 fun b _ o e => Heap.get?_push_of_some _ e) hp' hz4 fun c o c1 c2 c3 e => Heap.get?_push_of_some _ (hk c o c1 c2 c3 e)
theorem zipD2_end_held {Q : Fin → Shared → Prop} (S : ZipSep2 z TI TO i1 i2 fp1 fp2) (D1 : Draws prog w A i1 fp1 n1 P1 St1) (D2 : Draws prog w A i2 fp2 n2 P2 St2)
    (hz : IsZipHeld s.heap z TI TO T f) (hT : s.heap.get? T = some oT) (hTI : IsTupOf2 s.heap TI (.ref i1) (.ref i2)) (st1 : St1 i s.heap) (st2 : St2 i s.heap) (hle1 : i ≤ n1) (hle2 : i ≤ n2) (hend : i = n1 ∨ i = n2)
    (hE : ∀ h' tk e, (∀ c o, c ≠ z → c ≠ i1 → c ≠ i2 → s.heap.get? c = some o → h'.get? c = some o) → (∃ o, h'.get? e = some o ∧ o.cls = .type "StopIteration") → E (.ref e) { s with heap := h', toks := tk }) :
    wpAny (model prog w) A (Builtin.«zip.__next__» ⟨[.ref z], []⟩) Q E s := by
  obtain ⟨hp, g, d, tk0, os⟩ := s
  show wpAny _ _ (field (.ref z) 2 >>= _) _ _ _
  refine wpAny_bind (wpAny_field hz rfl (x := .bool false) rfl ?_)
  show wpAny _ _ (field (.ref z) 3 >>= _) _ _ _
  refine wpAny_bind (wpAny_field hz rfl (x := .ref TI) rfl ?_)
  refine wpAny_bind (wpAny_seqItems hTI rfl ?_)
  show wpAny _ _ (Builtin.SmallTypes.ownedTupleIsFree (.ref z) >>= _) _ _ _
  refine wpAny_bind (wpAny_tupleHeld_zip hz hT fun h₁ hz₁ hs₁ => ?_)
  replace hs₁ : Heap.SameBut z hp h₁ := hs₁
  simp only [Bool.false_eq_true, if_false]
  refine wpAny_bind ?_
  rw [← Array.forIn_toList]
  simp only [List.forIn_cons, List.forIn_nil]
  refine wpAny_bind (wpAny_bind (wpAny_holding ?_))
  show wpAny _ _ (Builtin.SmallTypes.nextOf (.ref i1) >>= _) _ _ ⟨h₁, g, d, tk0, os⟩
  by_cases hlt1 : i < n1
  · refine wpAny_bind (D1.item i _ _ _ hlt1 (D1.over st1 hs₁ S.zf1) fun x1 p1 tk1 hx1 sn1 hp1 => wpAny_pure ?_)
    replace hp1 : Heap.SameBut i1 h₁ p1 := hp1
    refine wpAny_pure ?_
    have hi2 : i = n2 := by omega
    refine wpAny_bind (wpAny_bind (wpAny_holding ?_))
    show wpAny _ _ (Builtin.SmallTypes.nextOf (.ref i2) >>= _) _ _ ⟨p1, g, d, tk1, os⟩
    refine wpAny_bind (D2.done ⟨p1, g, d, tk1, os⟩ _ _ (by rw [← hi2]; exact D2.over (D2.over st2 hs₁ S.zf2) hp1 S.sep1_2) fun q e hq he => ?_)
    replace hq : Heap.ExtBut i2 p1 q := hq
    exact hE q tk1 e (fun c o c1 c2 c3 x => hq _ _ c3 (hp1.extBut _ _ c2 (hs₁.extBut _ _ c1 x))) he
  · have hi1 : i = n1 := by omega
    refine wpAny_bind (D1.done ⟨h₁, g, d, tk0, os⟩ _ _ (by rw [← hi1]; exact D1.over st1 hs₁ S.zf1) fun q e hq he => ?_)
    replace hq : Heap.ExtBut i1 h₁ q := hq
    exact hE q tk0 e (fun c o c1 c2 _ x => hq _ _ c2 (hs₁.extBut _ _ c1 x)) he
theorem pyNext_zip_item_held {Q : Option Value → Shared → Prop} (S : ZipSep2 z TI TO i1 i2 fp1 fp2) (D1 : Draws prog w A.in1 i1 fp1 n1 P1 St1) (D2 : Draws prog w A.in1 i2 fp2 n2 P2 St2)
    (hz : IsZipHeld s.heap z TI TO T f) (hT : s.heap.get? T = some oT) (hTI : IsTupOf2 s.heap TI (.ref i1) (.ref i2)) (st1 : St1 i s.heap) (st2 : St2 i s.heap) (hlt1 : i < n1) (hlt2 : i < n2)
    (hQ : ∀ x1 x2 h' tk, P1 i x1 → P2 i x2 → IsZipHeld h' z TI TO T true → St1 (i + 1) h' → St2 (i + 1) h' → IsTupOf2 h' s.heap.objs.size x1 x2 → h'.objs.size = s.heap.objs.size + 1 →
      (∀ c o, c ≠ z → c ≠ i1 → c ≠ i2 → s.heap.get? c = some o → h'.get? c = some o) → Q (some (.ref s.heap.objs.size)) { s with heap := h', toks := tk }) :
    wpAny (model prog w) A (pyNext (.ref z)) Q E s := by
  have hTy : s.TypeIs (.ref z) "zip" := ⟨_, hz, rfl⟩
  unfold pyNext
  exact wpAny_bind (wpAny_attempt (wpAny_callSpecial?_slot (name := Str.ofString "__next__") hTy PySem.F.slot_zip_next
    (wpAny_call_entry PySem.F.slot_zip_next hTy PySem.F.entry_zip_next
      (zipD2_item_held S D1 D2 hz hT hTI st1 st2 hlt1 hlt2 fun x1 x2 h' tk a1 a2 a3 a4 a5 a6 a7 a8 => wpAny_pure (hQ x1 x2 h' tk a1 a2 a3 a4 a5 a6 a7 a8)) (PySem.F.args_zip_next_1 _))))
theorem pyNext_zip_end_held {Q : Option Value → Shared → Prop} (S : ZipSep2 z TI TO i1 i2 fp1 fp2) (D1 : Draws prog w A.in1 i1 fp1 n1 P1 St1) (D2 : Draws prog w A.in1 i2 fp2 n2 P2 St2)
    (hz : IsZipHeld s.heap z TI TO T f) (hT : s.heap.get? T = some oT) (hTI : IsTupOf2 s.heap TI (.ref i1) (.ref i2)) (st1 : St1 i s.heap) (st2 : St2 i s.heap) (hle1 : i ≤ n1) (hle2 : i ≤ n2) (hend : i = n1 ∨ i = n2)
    (hQ : ∀ h' tk, (∀ c o, c ≠ z → c ≠ i1 → c ≠ i2 → s.heap.get? c = some o → h'.get? c = some o) → Q none { s with heap := h', toks := tk }) : wpAny (model prog w) A (pyNext (.ref z)) Q E s := by
  have hTy : s.TypeIs (.ref z) "zip" := ⟨_, hz, rfl⟩
  unfold pyNext
  refine wpAny_bind (wpAny_attempt (wpAny_callSpecial?_slot (name := Str.ofString "__next__") hTy PySem.F.slot_zip_next
    (wpAny_call_entry PySem.F.slot_zip_next hTy PySem.F.entry_zip_next (zipD2_end_held S D1 D2 hz hT hTI st1 st2 hle1 hle2 hend fun h' tk e hk he => ?_) (PySem.F.args_zip_next_1 _))))
  obtain ⟨o, ho, hc⟩ := he
  refine wpAny_bind (wpAny_isInstance (T := "StopIteration") (b := true) ⟨o, ho, hc⟩ isSubtype_stop ?_)
  exact wpAny_pure (hQ _ _ hk)
/-- the zip, i items drawn, none let go -/
structure ZH (S1 S2 : Nat → Heap → Prop) (z TI TO i1 i2 : Addr) (i : Nat) (h : Heap) : Prop where
  ti : IsTupOf2 h TI (.ref i1) (.ref i2)
  s1 : S1 i h
  s2 : S2 i h
  zs : (i = 0 ∧ IsZip h z TI TO .none ∧ ∃ a1 a2, IsTupOf2 h TO a1 a2) ∨ ∃ T f oT, IsZipHeld h z TI TO T f ∧ h.get? T = some oT ∧ T ≠ z ∧ T ≠ i1 ∧ T ≠ i2 ∧ oT.cls = .type "tuple"
/-- the pairs behind addresses -/
inductive Pairs (h : Heap) : List Addr → List (Value × Value) → Prop where
  | nil : Pairs h [] []
  | cons {T : Addr} {Ts : List Addr} {p : Value × Value} {ps : List (Value × Value)} : IsTupOf2 h T p.1 p.2 → Pairs h Ts ps → Pairs h (T :: Ts) (p :: ps)
theorem Pairs.keep {h h' : Heap} : ∀ {Ts : List Addr} {ps : List (Value × Value)}, Pairs h Ts ps → (∀ T ∈ Ts, ∀ o, h.get? T = some o → h'.get? T = some o) → Pairs h' Ts ps
  | [], _, .nil, _ => .nil
  | T :: Ts, _, .cons r t, k => .cons (k T List.mem_cons_self _ r) (t.keep fun T' h' => k T' (List.mem_cons_of_mem _ h'))
theorem Pairs.snoc {h : Heap} {T : Addr} {x y : Value} (r : IsTupOf2 h T x y) : ∀ {Ts : List Addr} {ps : List (Value × Value)}, Pairs h Ts ps → Pairs h (Ts ++ [T]) (ps ++ [(x, y)])
  | [], _, .nil => .cons r .nil
  | _ :: Ts, _, .cons q t => .cons q (t.snoc r)
theorem Pairs.lt {h : Heap} : ∀ {Ts : List Addr} {ps : List (Value × Value)}, Pairs h Ts ps → ∀ T ∈ Ts, T < h.objs.size
  | _ :: _, _, .cons r t, T, hm => by
    rcases List.mem_cons.mp hm with e | hm
    · rw [e]; exact Heap.lt_size r
    · exact t.lt T hm
abbrev LstAt (h : Heap) (L : Addr) (Ts : List Addr) (c : Nat) : Prop := h.get? L = some { cls := .type "list", dict := none, data := .seq (Ts.map Value.ref).toArray c, slots := #[] }
theorem zip_next {Q : Option Value → Shared → Prop} (S : ZipSep2 z TI TO i1 i2 fp1 fp2) (D1 : Draws prog w A.in1 i1 fp1 n1 P1 St1) (D2 : Draws prog w A.in1 i2 fp2 n2 P2 St2) (hZ : ZH St1 St2 z TI TO i1 i2 i s.heap) (hlt1 : i < n1) (hlt2 : i < n2)
    (hQ : ∀ x1 x2 h' tk, P1 i x1 → P2 i x2 → ZH St1 St2 z TI TO i1 i2 (i + 1) h' → IsTupOf2 h' s.heap.objs.size x1 x2 → h'.objs.size = s.heap.objs.size + 1 →
      (∀ c o, c ≠ z → (i = 0 → c ≠ TO) → c ≠ i1 → c ≠ i2 → s.heap.get? c = some o → h'.get? c = some o) → Q (some (.ref s.heap.objs.size)) { s with heap := h', toks := tk }) :
    wpAny (model prog w) A (pyNext (.ref z)) Q E s := by
  have l1 : i1 < s.heap.objs.size := by obtain ⟨o, ho⟩ := D1.live i _ hZ.s1; exact Heap.lt_size ho
  have l2 : i2 < s.heap.objs.size := by obtain ⟨o, ho⟩ := D2.live i _ hZ.s2; exact Heap.lt_size ho
  rcases hZ.zs with ⟨rfl, hz, a1, a2, hTO⟩ | ⟨T, f, oT, hz, hT, t1, t2, t3, t4⟩
  · have lz : z < s.heap.objs.size := Heap.lt_size hz
    refine wpAny_pyNext_zipD2_item S D1 D2 hz hZ.ti hTO hZ.s1 hZ.s2 hlt1 hlt2 fun x1 x2 h' tk y1 y2 b1 b2 d1 d2 b5 b6 b7 => hQ x1 x2 h' tk y1 y2 ⟨b7 _ _ S.TIz S.TITO S.TIi1 S.TIi2 hZ.ti, d1, d2, .inr ⟨s.heap.objs.size, false, _, b1, b5, Nat.ne_of_gt lz, Nat.ne_of_gt l1, Nat.ne_of_gt l2, rfl⟩⟩ b5 b6 fun c o c1 c2 c3 c4 e => b7 c o c1 (c2 rfl) c3 c4 e
  · refine pyNext_zip_item_held S D1 D2 hz hT hZ.ti hZ.s1 hZ.s2 hlt1 hlt2 fun x1 x2 h' tk y1 y2 b1 d1 d2 b5 b6 b7 => hQ x1 x2 h' tk y1 y2 ⟨b7 _ _ S.TIz S.TIi1 S.TIi2 hZ.ti, d1, d2, .inr ⟨T, true, oT, b1, b7 _ _ t1 t2 t3 hT, t1, t2, t3, t4⟩⟩ b5 b6 fun c o c1 _ c3 c4 e => b7 c o c1 c3 c4 e
theorem zip_end {Q : Option Value → Shared → Prop} (S : ZipSep2 z TI TO i1 i2 fp1 fp2) (D1 : Draws prog w A.in1 i1 fp1 n1 P1 St1) (D2 : Draws prog w A.in1 i2 fp2 n2 P2 St2) (hZ : ZH St1 St2 z TI TO i1 i2 i s.heap) (hle1 : i ≤ n1) (hle2 : i ≤ n2) (hend : i = n1 ∨ i = n2)
    (hQ : ∀ h' tk, (∀ c o, c ≠ z → (i = 0 → c ≠ TO) → c ≠ i1 → c ≠ i2 → s.heap.get? c = some o → h'.get? c = some o) → Q none { s with heap := h', toks := tk }) :
    wpAny (model prog w) A (pyNext (.ref z)) Q E s := by
  rcases hZ.zs with ⟨rfl, hz, a1, a2, hTO⟩ | ⟨T, f, oT, hz, hT, t1, t2, t3, t4⟩
  · exact wpAny_pyNext_zipD2_end S D1 D2 hz hZ.ti hTO hZ.s1 hZ.s2 hle1 hle2 hend fun h' tk b => hQ h' tk fun c o c1 c2 c3 c4 e => b c o c1 (c2 rfl) c3 c4 e
  · exact pyNext_zip_end_held S D1 D2 hz hT hZ.ti hZ.s1 hZ.s2 hle1 hle2 hend fun h' tk b => hQ h' tk fun c o c1 _ c3 c4 e => b c o c1 c3 c4 e
theorem ZH.frame (S : ZipSep2 z TI TO i1 i2 fp1 fp2) (D1 : Draws prog w A i1 fp1 n1 P1 St1) (D2 : Draws prog w A i2 fp2 n2 P2 St2) {h h' : Heap} (hZ : ZH St1 St2 z TI TO i1 i2 i h) {L : Addr} (hL : L ∉ z :: TI :: TO :: (fp1 ++ fp2)) (hLl : ∃ o, h.get? L = some o ∧ o.cls = .type "list")
    (k : ∀ b o, b ≠ L → h.get? b = some o → h'.get? b = some o) : ZH St1 St2 z TI TO i1 i2 i h' := by
  simp only [List.mem_cons, List.mem_append, not_or] at hL
  obtain ⟨n0, n1', n2', n3, n4⟩ := hL
  refine ⟨k _ _ (Ne.symm n1') hZ.ti, D1.frame _ _ _ hZ.s1 fun b hb o e => k b o (fun q => n3 (q ▸ hb)) e, D2.frame _ _ _ hZ.s2 fun b hb o e => k b o (fun q => n4 (q ▸ hb)) e, ?_⟩
  rcases hZ.zs with ⟨e0, hz', a1, a2, hTO⟩ | ⟨T, f, oT, hz', hT', t1, t2, t3, t4⟩
  · exact .inl ⟨e0, k _ _ (Ne.symm n0) hz', a1, a2, k _ _ (Ne.symm n2') hTO⟩
  · refine .inr ⟨T, f, oT, k _ _ (Ne.symm n0) hz', k _ _ (fun q => ?_) hT', t1, t2, t3, t4⟩
    obtain ⟨o, ho, hc⟩ := hLl
    subst q
    rw [hT'] at ho
    cases ho
    rw [t4] at hc
    injection hc with hc
    exact absurd hc (by decide)
theorem zip_loop {R : Result → Shared → Prop} (S : ZipSep2 z TI TO i1 i2 fp1 fp2) (D1 : Draws prog w A.in1.in1 i1 fp1 n1 P1 St1) (D2 : Draws prog w A.in1.in1 i2 fp2 n2 P2 St2) (hn : min n1 n2 ≤ sizeLine) {L : Addr} (hL : L ∉ z :: TI :: TO :: (fp1 ++ fp2)) (res : Value) :
    ∀ (k i : Nat) (s : Shared) (Ts : List Addr) (ps : List (Value × Value)) (c : Nat), min n1 n2 - i = k → i ≤ min n1 n2 → ZH St1 St2 z TI TO i1 i2 i s.heap → LstAt s.heap L Ts c → Pairs s.heap Ts ps → Ts.length = i → Ts.Pairwise (· < ·) → (∀ T ∈ Ts, T ≠ z ∧ T ≠ i1 ∧ T ≠ i2 ∧ T ≠ L) → (∀ j p, ps[j]? = some p → P1 j p.1 ∧ P2 j p.2) →
    (∀ h' tk Ts' ps' c', LstAt h' L Ts' c' → Pairs h' Ts' ps' → Ts'.length = min n1 n2 → Ts'.Pairwise (· < ·) → (∀ T ∈ Ts', T ∈ Ts ∨ s.heap.objs.size ≤ T) → (∀ j p, ps'[j]? = some p → P1 j p.1 ∧ P2 j p.2) → (∀ b o, b ≠ z → b ≠ TO → b ≠ i1 → b ≠ i2 → b ≠ L → s.heap.get? b = some o → h'.get? b = some o) → R (.ok (.ret res)) { s with heap := h', toks := tk }) →
    codeAny (model prog w) A (.builtin "list.extend.loop" ⟨[.ref L, .ref z, res], []⟩) R s := by
  have hL' := hL
  simp only [List.mem_cons, List.mem_append, not_or] at hL'
  obtain ⟨n0, n1', n2', n3, n4⟩ := hL'
  have nL1 : L ≠ i1 := fun q => n3 (q ▸ S.mem1)
  have nL2 : L ≠ i2 := fun q => n4 (q ▸ S.mem2)
  intro k
  induction k with
  | zero =>
    intro i s Ts ps c hk hi hZ hS hP hlen hpw hTs hps hR
    refine codeAny_builtin PySem.F.entry_extend_loop ?_
    rw [Around.under_plainId PySem.F.plain_extend_loop _]
    show wpAny _ A.in1 (pyNext (.ref z) >>= _) _ _ s
    refine wpAny_bind (zip_end S D1 D2 hZ (by omega) (by omega) (by omega) fun h' tk b => ?_)
    refine wpAny_pure (hR h' tk Ts ps c (b _ _ n0 (fun _ => n2') nL1 nL2 hS) (hP.keep fun T hT o e => ?_) (by omega) hpw (fun T hT => .inl hT) hps fun b' o c1 c2 c3 c4 _ e => b _ _ c1 (fun _ => c2) c3 c4 e)
    obtain ⟨m1, m2, m3, _⟩ := hTs T hT
    exact b _ _ m1 (fun q => absurd hT (by rw [List.eq_nil_of_length_eq_zero (l := Ts) (by omega)]; exact List.not_mem_nil)) m2 m3 e
  | succ k ih =>
    intro i s Ts ps c hk hi hZ hS hP hlen hpw hTs hps hR
    have hlt : i < min n1 n2 := by omega
    have hlt1 : i < n1 := by omega
    have hlt2 : i < n2 := by omega
    refine codeAny_builtin PySem.F.entry_extend_loop ?_
    rw [Around.under_plainId PySem.F.plain_extend_loop _]
    show wpAny _ A.in1 (pyNext (.ref z) >>= _) _ _ s
    refine wpAny_bind (zip_next S D1 D2 hZ hlt1 hlt2 fun x1 x2 h' tk y1 y2 hZ' hT' hsz b => ?_)
    have hLs : L < s.heap.objs.size := Heap.lt_size hS
    have hS' : LstAt h' L Ts c := b _ _ n0 (fun _ => n2') nL1 nL2 hS
    have hP' : Pairs h' Ts ps := hP.keep fun T hT o e => by
      obtain ⟨m1, m2, m3, _⟩ := hTs T hT
      exact b _ _ m1 (fun q => absurd hT (by rw [List.eq_nil_of_length_eq_zero (l := Ts) (by omega)]; exact List.not_mem_nil)) m2 m3 e
    have lz : z < s.heap.objs.size := by
      rcases hZ.zs with ⟨_, hz, _⟩ | ⟨_, _, _, hz, _⟩ <;> exact Heap.lt_size hz
    have l1 : i1 < s.heap.objs.size := by obtain ⟨o, ho⟩ := D1.live i _ hZ.s1; exact Heap.lt_size ho
    have l2 : i2 < s.heap.objs.size := by obtain ⟨o, ho⟩ := D2.live i _ hZ.s2; exact Heap.lt_size ho
    show wpAny _ A.in1 (updateSeq L (·.push (.ref s.heap.objs.size)) >>= _) _ _ _
    refine wpAny_bind ?_
    have oth : ∀ b o, b ≠ L → h'.get? b = some o → (h'.update L (Obj.mapSeq (·.push (.ref s.heap.objs.size)))).get? b = some o := fun b o hb e => (Heap.get?_update_other _ _ (Ne.symm hb)).trans e
    have hsize : (Ts.map Value.ref).toArray.size = i := by simp [hlen]
    have hS2 : ∃ c2, LstAt (h'.update L (Obj.mapSeq (·.push (.ref s.heap.objs.size)))) L (Ts ++ [s.heap.objs.size]) c2 := by
      have e : ((Ts ++ [s.heap.objs.size]).map Value.ref).toArray = (Ts.map Value.ref).toArray.push (.ref s.heap.objs.size) := by simp
      unfold LstAt
      rw [e]
      exact ⟨_, Heap.get?_update_self _ hS' rfl⟩
    obtain ⟨c2, hS2⟩ := hS2
    refine wpAny_updateSeq hS' rfl (wpAny_pure ⟨plainId_quiet PySem.F.plain_extend_loop _, ih (i + 1) _ (Ts ++ [s.heap.objs.size]) (ps ++ [(x1, x2)]) c2 (by omega) hlt (hZ'.frame S D1 D2 hL ⟨_, hS', rfl⟩ oth) hS2 ?_ (by simp [hlen]) ?_ ?_ ?_ fun h2 tk2 Ts2 ps2 c3 a1 a2 a3 a4 a5 a6 a7 => ?_⟩)
      (by rw [hsize]; omega) (by rw [Array.size_push, hsize]; omega)
    · refine (hP'.snoc hT').keep fun T hT o e => oth T o (fun q => ?_) e
      rcases List.mem_append.mp hT with hT | hT
      · exact (hTs T hT).2.2.2 q
      · rw [List.mem_singleton.mp hT] at q; exact absurd q (Nat.ne_of_gt hLs)
    · refine List.pairwise_append.mpr ⟨hpw, List.pairwise_singleton .., fun T hT T' hT' => ?_⟩
      rw [List.mem_singleton.mp hT']; exact hP.lt T hT
    · intro T hT
      rcases List.mem_append.mp hT with hT | hT
      · exact hTs T hT
      · rw [List.mem_singleton.mp hT]; exact ⟨Nat.ne_of_gt lz, Nat.ne_of_gt l1, Nat.ne_of_gt l2, Nat.ne_of_gt hLs⟩
    · intro j p hj
      have hpl : ps.length = i := by
        have : ∀ {Ts : List Addr} {ps : List (Value × Value)}, Pairs s.heap Ts ps → ps.length = Ts.length := by
          intro Ts ps h
          induction h with
          | nil => rfl
          | cons _ _ ih => rw [List.length_cons, List.length_cons, ih]
        rw [this hP, hlen]
      rw [List.getElem?_append] at hj
      split at hj
      · exact hps j p hj
      · rename_i hge
        have : j = i := by
          by_cases h0 : j - ps.length = 0
          · omega
          · rw [List.getElem?_eq_none (by simp; omega)] at hj; cases hj
        subst this
        rw [hpl, Nat.sub_self] at hj
        cases hj
        exact ⟨y1, y2⟩
    · refine hR h2 tk2 Ts2 ps2 c3 a1 a2 a3 a4 (fun T hT => ?_) a6 fun b' o d1 d2 d3 d4 d5 e => a7 b' o d1 d2 d3 d4 d5 (oth _ _ d5 (b _ _ d1 (fun _ => d2) d3 d4 e))
      rcases a5 T hT with q | q
      · rcases List.mem_append.mp q with q | q
        · exact .inl q
        · rw [List.mem_singleton.mp q]; exact .inr (Nat.le_refl _)
      · refine .inr ?_
        have hh : (h'.update L (Obj.mapSeq (·.push (.ref s.heap.objs.size)))).objs.size = h'.objs.size := Heap.size_update ..
        have q : (h'.update L (Obj.mapSeq (·.push (.ref s.heap.objs.size)))).objs.size ≤ T := q
        omega
theorem zip_no_len : typeLookup (.type "zip") "__len__" = pure none := by rw [typeLookup_type, builtinLookup_eq_fast]; kernel_rfl
theorem zip_no_hint : typeLookup (.type "zip") "__length_hint__" = pure none := by rw [typeLookup_type, builtinLookup_eq_fast]; kernel_rfl
/-- what list(zip) leaves -/
def ZipOut (P1 P2 : Nat → Value → Prop) (z TO i1 i2 L : Addr) (N base : Nat) (h h' : Heap) (Ts : List Addr) (ps : List (Value × Value)) : Prop :=
  (∃ c, LstAt h' L Ts c) ∧ Pairs h' Ts ps ∧ Ts.length = N ∧ Ts.Pairwise (· < ·) ∧ (∀ T ∈ Ts, base ≤ T) ∧ (∀ j p, ps[j]? = some p → P1 j p.1 ∧ P2 j p.2) ∧ ∀ b o, b ≠ z → b ≠ TO → b ≠ i1 → b ≠ i2 → b ≠ L → h.get? b = some o → h'.get? b = some o
theorem zip_extend {R : Result → Shared → Prop} (S : ZipSep2 z TI TO i1 i2 fp1 fp2) (D1 : Draws prog w A.in1.in1 i1 fp1 n1 P1 St1) (D2 : Draws prog w A.in1.in1 i2 fp2 n2 P2 St2) (hn : min n1 n2 ≤ sizeLine) {L : Addr} (hL : L ∉ z :: TI :: TO :: (fp1 ++ fp2)) (res : Value) (c₀ : Nat)
    (hz : IsZip s.heap z TI TO .none) (hZ : ZH St1 St2 z TI TO i1 i2 0 s.heap) (hS : s.heap.get? L = some { cls := .type "list", data := .seq #[] c₀ })
    (hR : ∀ h' tk Ts ps, ZipOut P1 P2 z TO i1 i2 L (min n1 n2) s.heap.objs.size s.heap h' Ts ps → R (.ok (.ret res)) { s with heap := h', toks := tk }) :
    wpAny (model prog w) A.in1 (Builtin.List.listExtendWith (.ref L) (.ref z) res)
      (fun fin s' => match fin with | .done f => R (.ok f) s' | .again c' => c'.quiet = true ∧ codeAny (model prog w) A c' R s') (fun e s' => R (.error e) s') s := by
  have hT : s.TypeIs (.ref z) "zip" := ⟨_, hz, rfl⟩
  have hLz : L ≠ z := fun e => hL (e ▸ List.mem_cons_self)
  unfold Builtin.List.listExtendWith
  refine wpAny_bind (wpAny_typeOf hT ?_)
  have h1 : Builtin.List.listSameRef (.ref L) (.ref z) = false := by simp [Builtin.List.listSameRef, hLz]
  have h2 : (Value.type "zip" == Value.type "list") = false := by decide
  have h3 : (Value.type "zip" == Value.type "tuple") = false := by decide
  simp only [h1, h2, h3, Bool.or_false, Bool.false_eq_true, if_false]
  refine wpAny_bind (wpAny_pyIter_zip hz ?_)
  refine wpAny_bind (wpAny_holding ?_)
  unfold Builtin.List.listLengthHint
  refine wpAny_bind (wpAny_specialOf hT zip_no_len ?_)
  show wpAny _ A.in1 (specialOf (Value.ref z) (Str.ofString "__length_hint__") >>= _) _ _ _
  refine wpAny_bind (wpAny_specialOf hT zip_no_hint ?_)
  refine wpAny_pure ?_
  show wpAny _ A.in1 (rule "list.extend.makes-room" >>= fun _ => Builtin.List.listTouch (.ref L) >>= fun _ =>
    again (.builtin "list.extend.loop" ⟨[.ref L, .ref z, res], []⟩)) _ _ _
  refine wpAny_bind (wpAny_rule ?_)
  refine wpAny_bind ?_
  show wpAny _ A.in1 (updateSeq L (·.push .none) >>= fun _ => updateSeq L (·.pop)) _ _ _
  refine wpAny_bind (wpAny_updateSeq hS rfl ?_)
  have hS₂ := Heap.get?_update_self (Obj.mapSeq (·.push Value.none)) hS rfl
  refine wpAny_updateSeq (hz := by seq_fits) hS₂ rfl ?_
  have hS₃ := Heap.get?_update_self (Obj.mapSeq (·.pop)) hS₂ rfl
  have oth : ∀ b o, b ≠ L → s.heap.get? b = some o → ((s.heap.update L (Obj.mapSeq (·.push Value.none))).update L (Obj.mapSeq (·.pop))).get? b = some o :=
    fun b o hb e => (Heap.get?_update_other _ _ (Ne.symm hb)).trans ((Heap.get?_update_other _ _ (Ne.symm hb)).trans e)
  have hsz : ((s.heap.update L (Obj.mapSeq (·.push Value.none))).update L (Obj.mapSeq (·.pop))).objs.size = s.heap.objs.size := by rw [Heap.size_update, Heap.size_update]
  refine wpAny_pure ⟨plainId_quiet PySem.F.plain_extend_loop _, zip_loop S D1 D2 hn hL _ _ 0 _ [] [] _ rfl (Nat.zero_le _) (hZ.frame S D1 D2 hL ⟨_, hS, rfl⟩ oth) hS₃ .nil rfl List.Pairwise.nil (fun T h => by cases h) (fun j p h => by simp at h) fun h' tk Ts ps c a1 a2 a3 a4 a5 a6 a7 => ?_⟩
  refine hR h' tk Ts ps ⟨⟨c, a1⟩, a2, a3, a4, fun T hT => ?_, a6, fun b o d1 d2 d3 d4 d5 e => a7 b o d1 d2 d3 d4 d5 (oth b o d5 e)⟩
  rcases a5 T hT with q | q
  · cases q
  · have q : ((s.heap.update L (Obj.mapSeq (·.push Value.none))).update L (Obj.mapSeq (·.pop))).objs.size ≤ T := q
    rw [hsz] at q; exact q
theorem zip_init {R : Result → Shared → Prop} (S : ZipSep2 z TI TO i1 i2 fp1 fp2) (D1 : Draws prog w A.in1.in1 i1 fp1 n1 P1 St1) (D2 : Draws prog w A.in1.in1 i2 fp2 n2 P2 St2) (hn : min n1 n2 ≤ sizeLine) {L : Addr} (hL : L ∉ z :: TI :: TO :: (fp1 ++ fp2))
    (hz : IsZip s.heap z TI TO .none) (hZ : ZH St1 St2 z TI TO i1 i2 0 s.heap) (hS : s.heap.get? L = some { cls := .type "list", data := .seq #[] })
    (hR : ∀ h' tk Ts ps, ZipOut P1 P2 z TO i1 i2 L (min n1 n2) s.heap.objs.size s.heap h' Ts ps → R (.ok (.ret .none)) { s with heap := h', toks := tk }) :
    wpAny (model prog w) A.in1 (Builtin.«list.__init__» ⟨[.ref L, .ref z], []⟩)
      (fun fin s' => match fin with | .done f => R (.ok f) s' | .again c' => c'.quiet = true ∧ codeAny (model prog w) A c' R s') (fun e s' => R (.error e) s') s := by
  have hL' := hL
  simp only [List.mem_cons, List.mem_append, not_or] at hL'
  obtain ⟨n0, n1', n2', n3, n4⟩ := hL'
  show wpAny _ A.in1 (do let old ← Builtin.List.listItems (.ref L); Builtin.List.listUpdate (.ref L) (fun _ => #[]); letGo old.toList.reverse; Builtin.List.listExtendWith (.ref L) (.ref z) .none) _ _ s
  refine wpAny_bind ?_
  unfold Builtin.List.listItems
  refine wpAny_bind (wpAny_seqItems hS rfl (wpAny_pure ?_))
  show wpAny _ A.in1 (updateSeq L (fun _ => #[]) >>= fun _ => letGo (#[] : Array Value).toList.reverse >>= fun _ => Builtin.List.listExtendWith (.ref L) (.ref z) .none) _ _ s
  refine wpAny_bind (wpAny_updateSeq hS rfl ?_)
  have hS₂ := Heap.get?_update_self (Obj.mapSeq (fun _ => (#[] : Array Value))) hS rfl
  have oth : ∀ b o, b ≠ L → s.heap.get? b = some o → (s.heap.update L (Obj.mapSeq (fun _ => (#[] : Array Value)))).get? b = some o :=
    fun b o hb e => (Heap.get?_update_other _ _ (Ne.symm hb)).trans e
  have hsz : (s.heap.update L (Obj.mapSeq (fun _ => (#[] : Array Value)))).objs.size = s.heap.objs.size := Heap.size_update ..
  refine wpAny_bind (wpAny_letGo ?_)
  refine zip_extend (s := { s with heap := s.heap.update L (Obj.mapSeq (fun _ => (#[] : Array Value))) }) S D1 D2 hn hL .none _ (oth _ _ (Ne.symm n0) hz) (hZ.frame S D1 D2 hL ⟨_, hS, rfl⟩ oth) hS₂ fun h' tk Ts ps ⟨a1, a2, a3, a4, a5, a6, a7⟩ => ?_
  exact hR h' tk Ts ps ⟨a1, a2, a3, a4, fun T hT => by have q := a5 T hT; rw [hsz] at q; exact q, a6, fun b o d1 d2 d3 d4 d5 e => a7 b o d1 d2 d3 d4 d5 (oth b o d5 e)⟩
theorem call_list_zip {Q : Value → Shared → Prop} (S : ZipSep2 z TI TO i1 i2 fp1 fp2) (D1 : Draws prog w A.in1.in1.in1 i1 fp1 n1 P1 St1) (D2 : Draws prog w A.in1.in1.in1 i2 fp2 n2 P2 St2) (hn : min n1 n2 ≤ sizeLine)
    (hz : IsZip s.heap z TI TO .none) (hZ : ZH St1 St2 z TI TO i1 i2 0 s.heap) (hfp : ∀ b ∈ z :: TI :: TO :: (fp1 ++ fp2), b < s.heap.objs.size)
    (hQ : ∀ h' tk Ts ps, ZipOut P1 P2 z TO i1 i2 s.heap.objs.size (min n1 n2) (s.heap.objs.size + 1) s.heap h' Ts ps → Q (.ref s.heap.objs.size) { s with heap := h', toks := tk }) :
    wpAny (model prog w) A (call (.type "list") [.ref z]) Q E s := by
  have hL : s.heap.objs.size ∉ z :: TI :: TO :: (fp1 ++ fp2) := fun hm => Nat.lt_irrefl _ (hfp _ hm)
  refine callType_codes (Q₁ := fun obj s₁ => obj = .ref s.heap.objs.size ∧ s₁ = { s with heap := s.heap.push { cls := .type "list", data := .seq #[] } }) PySem.F.called_list (PySem.F.typeCall_list_1 _) PySem.F.entry_list_init
    (code_list_new _ ⟨rfl, rfl⟩) fun obj s₁ h₁ => ?_
  obtain ⟨rfl, rfl⟩ := h₁
  have hS : (s.heap.push { cls := .type "list", data := .seq #[] }).get? s.heap.objs.size = some { cls := .type "list", data := .seq #[] } := Heap.get?_push_size _ rfl
  have up : ∀ b o, s.heap.get? b = some o → (s.heap.push { cls := .type "list", data := .seq #[] }).get? b = some o := fun b o e => Heap.get?_push_of_some _ e
  have hsz : (s.heap.push { cls := .type "list", data := .seq #[] }).objs.size = s.heap.objs.size + 1 := Heap.size_push ..
  have hZ' : ZH St1 St2 z TI TO i1 i2 0 (s.heap.push { cls := .type "list", data := .seq #[] }) := by
    refine ⟨up _ _ hZ.ti, D1.frame _ _ _ hZ.s1 fun b _ o e => up b o e, D2.frame _ _ _ hZ.s2 fun b _ o e => up b o e, ?_⟩
    rcases hZ.zs with ⟨e0, hz', a1, a2, hTO⟩ | ⟨T, f, oT, hz', hT', t⟩
    · exact .inl ⟨e0, up _ _ hz', a1, a2, up _ _ hTO⟩
    · exact .inr ⟨T, f, oT, up _ _ hz', up _ _ hT', t⟩
  refine ⟨⟨_, hS, rfl⟩, PySem.F.args_list_init_2 _ _, zip_init (s := { s with heap := s.heap.push { cls := .type "list", data := .seq #[] } }) S D1 D2 hn hL (up _ _ hz) hZ' hS fun h' tk Ts ps ⟨a1, a2, a3, a4, a5, a6, a7⟩ => ?_⟩
  exact ⟨rfl, hQ h' tk Ts ps ⟨a1, a2, a3, a4, fun T hT => by have q := a5 T hT; rw [hsz] at q; exact q, a6, fun b o d1 d2 d3 d4 d5 e => a7 b o d1 d2 d3 d4 d5 (up b o e)⟩⟩
end
end Pv
set_option Elab.async false
set_option linter.all false
set_option maxRecDepth 100000
/-! P27: list(zip(a, b)), the rule -/
namespace Pv
open PySem PySem.Spec PyProof.Rows L2
theorem un_laids {fs ex : List Addr} {H H' : Hp} {h h' : Heap} (k : ∀ b u, h.get? b = some u → h'.get? b = some u) (sm : Same H H') (fr : ∀ b, H b = none → H' b ≠ none → h.objs.size ≤ b) : Un fs ex H H' h h' where
  keep := fun b u q _ _ _ => k b u q
  slot := fun b u q _ _ _ => ⟨u.slots, k b u q⟩
  free := fun b u q n _ => by
    cases e : H' b with
    | none => rfl
    | some v => exact absurd (Heap.lt_size q) (Nat.not_lt_of_le (fr b n (by rw [e]; exact nofun)))
  there := fun b u q _ => ⟨u, k b u q⟩
  tups := fun b xs q => sm _ _ q
  frzs := fun b u xs q => sm _ _ q
  tbls := fun b ps q => ⟨#[], by rw [sm _ _ q]; simp⟩
theorem hok_laids {P : Program} {w : World} {H H' : Hp} {h h' : Heap} (x : HOk P w H h) (k : ∀ b u, h.get? b = some u → h'.get? b = some u) (sm : Same H H') (new : ∀ b u, H b = none → H' b = some u → ObjOk P w H' h' b u) : HOk P w H' h' := fun b u e => by
  cases hb : H b with
  | none => exact new b u hb e
  | some v =>
    rw [sm b _ hb] at e
    cases e
    exact (x b _ hb).stay (fun c v _ q => k c v q) (fun c q => sm _ _ q) fun c xs q => sm _ _ q
/-- the tuples of a zip -/
def putsT (H : Hp) : List Addr → List (V × V) → Hp
  | T :: Ts, p :: ps => upd (putsT H Ts ps) T (.tup [p.1, p.2])
  | _, _ => H
theorem putsT_out {H : Hp} : ∀ {Ts : List Addr} {ps : List (V × V)} {b : Addr}, b ∉ Ts → putsT H Ts ps b = H b
  | [], ps, b, _ => by cases ps <;> rfl
  | T :: Ts, [], b, _ => rfl
  | T :: Ts, p :: ps, b, h => by
    simp only [List.mem_cons, not_or] at h
    show upd (putsT H Ts ps) T _ b = _
    rw [upd_ne h.1, putsT_out h.2]
theorem putsT_in {H : Hp} : ∀ {Ts : List Addr} {ps : List (V × V)} {b : Addr} {u : HO}, putsT H Ts ps b = some u → H b = some u ∨ ∃ (i : Nat) (p : V × V), Ts[i]? = some b ∧ ps[i]? = some p ∧ u = .tup [p.1, p.2]
  | [], ps, b, u, h => by cases ps <;> exact .inl h
  | T :: Ts, [], b, u, h => .inl h
  | T :: Ts, p :: ps, b, u, h => by
    have h : upd (putsT H Ts ps) T (.tup [p.1, p.2]) b = some u := h
    by_cases e : b = T
    · subst e
      rw [upd_same] at h
      cases h
      exact .inr ⟨0, p, rfl, rfl, rfl⟩
    · rw [upd_ne e] at h
      rcases putsT_in h with q | ⟨i, p', q1, q2, q3⟩
      · exact .inl q
      · exact .inr ⟨i + 1, p', q1, q2, q3⟩
def rZipL (K : PySem.W.Frag) (vs : List V) (H : Hp) (Q : VK) : Prop := ∃ (b c : Bool) (a d : Addr) (xs ys : List V), vs = [.ref a, .ref d] ∧ Sq K H b a xs ∧ Sq K H c d ys ∧ min xs.length ys.length ≤ sizeLine ∧
  ∀ (Ts : List Addr) (L : Addr), Ts.length = min xs.length ys.length → Ts.Pairwise (· < ·) → L ∉ Ts → H L = none → (∀ T ∈ Ts, H T = none) → Q (.ref L) (upd (putsT H Ts (xs.zip ys)) L (.lst (Ts.map V.ref)))
def tZipL (K : PySem.W.Frag) (ta : TA) : TE := fun σ H Q => ta σ H fun vs H1 => rZipL K vs H1 Q
theorem zip_vals {xs ys : List V} {its its2 : List Value} (r : Vals xs its) (r2 : Vals ys its2) (i : Nat) (x y : Value) (h1 : its[i]? = some x) (h2 : its2[i]? = some y) : ∃ u v, (xs.zip ys)[i]? = some (u, v) ∧ RelV u x ∧ RelV v y := by
  have l1 := r.length
  have l2 := r2.length
  have hi := (List.getElem?_eq_some_iff.mp h1).1
  have hj := (List.getElem?_eq_some_iff.mp h2).1
  obtain ⟨x', e1, q1⟩ := r.get (i := i) (x := xs[i]'(by omega)) (List.getElem?_eq_getElem _)
  obtain ⟨y', e2, q2⟩ := r2.get (i := i) (x := ys[i]'(by omega)) (List.getElem?_eq_getElem _)
  rw [h1] at e1; rw [h2] at e2
  cases e1; cases e2
  refine ⟨_, _, ?_, q1, q2⟩
  rw [List.getElem?_zip_eq_some]
  exact ⟨List.getElem?_eq_getElem _, List.getElem?_eq_getElem _⟩
theorem pairs_at {h : Heap} : ∀ {Ts : List Addr} {ps : List (Value × Value)} {i : Nat} {T : Addr}, Pairs h Ts ps → Ts[i]? = some T → ∃ p, ps[i]? = some p ∧ IsTupOf2 h T p.1 p.2
  | _ :: _, _, 0, T, .cons r t, e => by cases e; exact ⟨_, rfl, r⟩
  | _ :: _, _, i + 1, T, .cons r t, e => pairs_at (i := i) t (by simpa using e)
theorem vals_refs : ∀ Ts : List Addr, Vals (Ts.map V.ref) (Ts.map Value.ref)
  | [] => .nil
  | T :: Ts => .cons rfl (vals_refs Ts)
theorem IsQ.keep {h h' : Heap} {b : Bool} {a : Addr} {its : Array Value} (e : IsQ h b a its) (k : ∀ o, h.get? a = some o → h'.get? a = some o) : IsQ h' b a its := by
  cases b
  · obtain ⟨o, ho, r⟩ := e; exact ⟨o, k _ ho, r⟩
  · obtain ⟨o, ho, r⟩ := e; exact ⟨o, k _ ho, r⟩
section
variable {X : Cx}
theorem pe_lstZip {e e2 : Expr} {ta : TA} {p p2 q pos : Pos} (hcalm : X.calm = true) (hg : Gl X "list") (hm : X.mg "list" = none) (hg2 : Gl X "zip") (hm2 : X.mg "zip" = none) (ha : PA X [e, e2] ta)
    (hs : starEach [e, e2] X.env = (false, eval e X.env) :: starEach [e2] X.env := by rfl) (hpl : (backTo q (starEach [e2] X.env)).any (·.1) = false := by rfl)
    (na : starEach [.Call (.Name "zip" p2) [e, e2] [] q] X.env = (false, eval (.Call (.Name "zip" p2) [e, e2] [] q) X.env) :: starEach [] X.env := by rfl) :
    PE X (.Call (.Name "list" p) [.Call (.Name "zip" p2) [e, e2] [] q] [] pos) (tZipL X.K ta) := by
  refine ⟨fun pins s σ H Q I h => ?_⟩
  refine Call_ (ld_blt (u := .type "list") I hg hm (by rfl) ?_)
  refine PyProof.Rows.callWith_type1 (PyProof.Rows.args_cons ?_ na) na rfl
  refine Call_ (ld_blt I hg2 hm2 PyProof.Rows.boot_zip (PyProof.Rows.callWith_type1 (thn (ha.run q pins s σ H _ I h) fun us s1 ⟨vs, H1, I1, r1, q1⟩ => ?_) hs hpl))
  obtain ⟨b, c, a, d, xs, ys, ex, hqx, hqy, hmin, q⟩ := q1
  subst ex
  cases r1 with
  | cons r rr =>
    cases rr with
    | cons r' rr =>
      cases rr
      cases r
      cases r'
      obtain ⟨its, rv, p1⟩ := sq_at I1 hqx
      obtain ⟨its2, rv2, p2⟩ := sq_at I1 hqy
      refine zip_begins2 (begins b a its.toArray) (begins c d its2.toArray) p1 p2 fun h' hz hTI hTO h1 h2 hsz hk => PyProof.Rows.args_nil ?_
      have la := p1.lt
      have ld := p2.lt
      have l1 := rv.length
      have l2 := rv2.length
      have hmn : min its.toArray.size its2.toArray.size = min xs.length ys.length := by rw [List.size_toArray, List.size_toArray, l1, l2]
      have q1' : IsQ h' b a its.toArray := p1.keep fun o e => hk _ _ e
      have q2' : IsQ h' c d its2.toArray := p2.keep fun o e => hk _ _ e
      have hh := I1.ok.hd hcalm
      have D1 := draws (prog := X.prog) (w := X.w) (A := X.A.in1.in1.in1) (by simpa using hh) b s1.heap.objs.size a (Nat.ne_of_lt la) its.toArray
      have D2 := draws (prog := X.prog) (w := X.w) (A := X.A.in1.in1.in1) (by simpa using hh) c (s1.heap.objs.size + 1) d (Nat.ne_of_lt (Nat.lt_succ_of_lt ld)) its2.toArray
      have S := zip_sep2 (N := s1.heap.objs.size) (fp1 := [a]) (fp2 := [d]) (fun b hb => by rw [List.mem_singleton.mp hb]; exact la) (fun b hb => by rw [List.mem_singleton.mp hb]; exact ld)
      refine call_list_zip S D1 D2 (by rw [hmn]; exact hmin) hz ⟨hTI, ⟨IsI.new h1, q1'⟩, ⟨IsI.new h2, q2'⟩, .inl ⟨rfl, hz, _, _, hTO⟩⟩ (fun b hb => ?_) fun h2' tk Ts ps ⟨⟨cc, a1⟩, a2, a3, a4, a5, a6, a7⟩ => ?_
      · simp only [List.mem_cons, List.mem_append, List.not_mem_nil, or_false, false_or] at hb
        show b < h'.objs.size
        rw [hsz]
        have e5 : ∀ {x : Addr}, x < s1.heap.objs.size → x < s1.heap.objs.size + 5 := fun h => Nat.lt_of_lt_of_le h (Nat.le_add_right _ _)
        have e6 : ∀ (i : Nat), i < 5 → s1.heap.objs.size + i < s1.heap.objs.size + 5 := fun i h => Nat.add_lt_add_left h _
        rcases hb with hb | hb | hb | (hb | hb) | hb | hb <;> subst hb
        · exact e6 4 (by decide)
        · exact e6 2 (by decide)
        · exact e6 3 (by decide)
        · exact e6 0 (by decide)
        · exact e5 la
        · exact e6 1 (by decide)
        · exact e5 ld
      · have lo : ∀ b o, s1.heap.get? b = some o → h2'.get? b = some o := fun b o e => by
          have lb := Heap.lt_size e
          exact a7 b o (Nat.ne_of_lt (Nat.lt_of_lt_of_le lb (Nat.le_add_right _ _))) (Nat.ne_of_lt (Nat.lt_of_lt_of_le lb (Nat.le_add_right _ _))) (Nat.ne_of_lt lb) (Nat.ne_of_lt (Nat.lt_succ_of_lt lb)) (Nat.ne_of_lt (show b < h'.objs.size by rw [hsz]; exact Nat.lt_of_lt_of_le lb (Nat.le_add_right _ _))) (hk b o e)
        have a5' : ∀ T ∈ Ts, h'.objs.size + 1 ≤ T := a5
        have leL : s1.heap.objs.size ≤ h'.objs.size := by rw [hsz]; exact Nat.le_add_right _ _
        have leT : ∀ T ∈ Ts, s1.heap.objs.size ≤ T := fun T hT => Nat.le_trans leL (Nat.le_trans (Nat.le_succ _) (a5' T hT))
        have hT0 : ∀ T ∈ Ts, H1 T = none := fun T hT => I1.hok.fresh (leT T hT)
        have hL0 : H1 h'.objs.size = none := I1.hok.fresh leL
        have hLT : h'.objs.size ∉ Ts := fun hm => Nat.not_succ_le_self _ (a5' _ hm)
        have a3' : Ts.length = min xs.length ys.length := by rw [a3, hmn]
        have out : ∀ b, b ≠ h'.objs.size → b ∉ Ts → upd (putsT H1 Ts (xs.zip ys)) h'.objs.size (.lst (Ts.map V.ref)) b = H1 b := fun b n1 n2 => by
          rw [upd_ne n1, putsT_out n2]
        have sm : Same H1 (upd (putsT H1 Ts (xs.zip ys)) h'.objs.size (.lst (Ts.map V.ref))) := fun b o e => by
          rw [out b (fun q => by rw [q, hL0] at e; cases e) (fun q => by rw [hT0 b q] at e; cases e)]; exact e
        refine ⟨.ref h'.objs.size, _, I1.un (t' := tk) (un_laids lo sm fun b e1 e2 => ?_) (hok_laids I1.hok lo sm fun b u e1 e2 => ?_), rfl, q Ts _ a3' a4 hLT hL0 hT0⟩
        · by_cases hb1 : b = h'.objs.size
          · rw [hb1]; exact leL
          by_cases hb2 : b ∈ Ts
          · exact leT b hb2
          · rw [out b hb1 hb2] at e2; exact absurd e1 e2
        · by_cases hb1 : b = h'.objs.size
          · subst hb1
            rw [upd_same] at e2
            cases e2
            exact ⟨by rw [List.length_map, a3']; exact hmin, Ts.map Value.ref, cc, vals_refs Ts, a1⟩
          · rw [upd_ne hb1] at e2
            rcases putsT_in e2 with q3 | ⟨i, p, q3, q4, rfl⟩
            · rw [e1] at q3; cases q3
            · obtain ⟨pv, q5, q6⟩ := pairs_at a2 q3
              obtain ⟨q7, q8⟩ := a6 i pv q5
              obtain ⟨u, v, q9, r9, r10⟩ := zip_vals rv rv2 i pv.1 pv.2 (by simpa using q7) (by simpa using q8)
              rw [q4] at q9
              cases q9
              exact ⟨show 2 ≤ sizeLine by decide, [pv.1, pv.2], .cons r9 (.cons r10 .nil), ⟨_, q6, rfl, _, rfl⟩⟩
end
end Pv
set_option Elab.async false
set_option linter.all false
set_option maxRecDepth 100000
/-! P28: list(zip(a, b)) as a value function -/
namespace Pv
open PySem PySem.Spec PyProof.Rows L2
section
variable {X : Cx} {K : PySem.W.Frag} {G0 G G1 G' H H' : Hp} {σ : L2.St} {ρ : Env} {ws : List (V × Arg)} {F F1 F2 : List Addr} {e a b c tg : Expr} {es : List Expr} {pos : Pos} {A B C : Fe}
theorem grow_puts (e : Same G H) : ∀ {Ts : List Addr} {ds cs : List D} {xs ys : List V}, Ts.length = min xs.length ys.length → Ts.Pairwise (· < ·) → (∀ T ∈ Ts, H T = none) → RepFs K G ds xs → RepFs K G cs ys →
    ∃ G', Grow G H G' (putsT H Ts (xs.zip ys)) [] ∧ RepFs K G' (zipF ds cs) (Ts.map V.ref)
  | [], ds, cs, xs, ys, hl, _, _, r1, r2 => by
    refine ⟨G, ?_, ?_⟩
    · have : putsT H [] (xs.zip ys) = H := by cases xs.zip ys <;> rfl
      rw [this]; exact Grow.refl e
    · have : zipF ds cs = [] := by
        have l1 := r1.len
        have l2 := r2.len
        cases ds with
        | nil => rfl
        | cons d ds =>
          cases cs with
          | nil => rfl
          | cons c cs =>
            simp only [List.length_cons, List.length_nil] at hl l1 l2
            omega
      rw [this]; exact rfl
  | T :: Ts, [], cs, xs, ys, hl, _, _, r1, r2 => by
    have l1 := r1.len
    simp only [List.length_cons, List.length_nil] at hl l1
    omega
  | T :: Ts, d :: ds, [], xs, ys, hl, _, _, r1, r2 => by
    have l2 := r2.len
    simp only [List.length_cons, List.length_nil] at hl l2
    omega
  | T :: Ts, d :: ds, c :: cs, xs, ys, hl, pw, hf, ⟨x, xs', e1, q1, r1⟩, ⟨y, ys', e2, q2, r2⟩ => by
    subst e1 e2
    obtain ⟨p1, p2⟩ := List.pairwise_cons.mp pw
    obtain ⟨G1, g1, rr⟩ := grow_puts (Ts := Ts) e (by simp only [List.length_cons] at hl; omega) p2 (fun T' h => hf T' (List.mem_cons_of_mem _ h)) r1 r2
    have hT : putsT H Ts (xs'.zip ys') T = none := by
      rw [putsT_out fun hm => Nat.lt_irrefl _ (p1 T hm)]
      exact hf T List.mem_cons_self
    have g2 := Grow.newF (o := .tup [x, y]) g1.gh hT
    refine ⟨_, g1.trans g2 (fun a h => by cases h), ⟨.ref T, Ts.map V.ref, rfl, ⟨T, [x, y], rfl, upd_same, ?_⟩, RepFs.mono g2.gg _ _ rr⟩⟩
    exact ⟨x, [y], rfl, RepF.mono (g1.gg.trans g2.gg) _ _ q1, y, [], rfl, RepF.mono (g1.gg.trans g2.gg) _ _ q2, rfl⟩
def pLstZip (A B : Fe) : Fe := fun ρ => (aCons A (aCons B aNil) ρ).bind fun as => (ownAll as).bind fun ds => match ds with
  | [d, c] => (seqD d).bind fun p => (seqD c).bind fun q => if min p.2.length q.2.length ≤ big then some (.v 1 (.lst (zipF p.2 q.2))) else none
  | _ => none
theorem e_lstZip {p p2 q : Pos} (hcalm : X.calm = true) (hg : Gl X "list") (hm : X.mg "list" = none) (hg2 : Gl X "zip") (hm2 : X.mg "zip" = none) (ha : OkE X a A) (hb : OkE X b B)
    (hs : starEach [a, b] X.env = (false, eval a X.env) :: starEach [b] X.env := by rfl) (hs2 : starEach [b] X.env = [(false, eval b X.env)] := by rfl) (hpl : (backTo q (starEach [b] X.env)).any (·.1) = false := by rfl)
    (na : starEach [.Call (.Name "zip" p2) [a, b] [] q] X.env = (false, eval (.Call (.Name "zip" p2) [a, b] [] q) X.env) :: starEach [] X.env := by rfl) :
    OkE X (.Call (.Name "list" p) [.Call (.Name "zip" p2) [a, b] [] q] [] pos) (pLstZip A B) :=
  PE.imp (pe_lstZip (ta := tA X.K (aCons A (aCons B aNil))) hcalm hg hm hg2 hm2 (a_cons ha (a_cons hb a_nil hs2) hs) hs hpl na) fun σ H Q ⟨G0, ρ, ws, x, I, hf, post⟩ => by
  obtain ⟨as, has, hf⟩ := Option.bind_eq_some_iff.mp hf
  obtain ⟨cs, hcs, hf⟩ := Option.bind_eq_some_iff.mp hf
  split at hf
  · rename_i d c
    obtain ⟨⟨b1, ds1⟩, h1, hf⟩ := Option.bind_eq_some_iff.mp hf
    obtain ⟨⟨b2, ds2⟩, h2, hf⟩ := Option.bind_eq_some_iff.mp hf
    simp only at hf
    split at hf
    · rename_i hbig
      cases hf
      refine args_frozen I has hcs fun vs H1 G F1 F2 J r => ?_
      obtain ⟨v, vs, rfl, r1, v2, vs2, rfl, r2, rfl⟩ := r
      obtain ⟨p1, xs, rfl, q1, rx⟩ := seqD_rep h1 r1
      obtain ⟨p2', ys, rfl, q2, ry⟩ := seqD_rep h2 r2
      refine ⟨b1, b2, p1, p2', xs, ys, rfl, same_q J.ex q1, same_q J.ex q2, by rw [rx.len, ry.len]; exact big_line hbig, fun Ts L hl pw hLT hL hT => ?_⟩
      obtain ⟨G', g1, rr⟩ := grow_puts J.ex hl pw hT rx ry
      have hL' : putsT H1 Ts (xs.zip ys) L = none := by rw [putsT_out hLT]; exact hL
      have g2 := Grow.newO (o := .lst (Ts.map V.ref)) g1.gh hL' trivial
      refine post _ _ (J.push (k := 1) (d := .lst (zipF ds1 ds2)) (g1.trans g2 (fun a h => by cases h)) ?_).SI
      exact ⟨L, Ts.map V.ref, [], rfl, upd_same, rfl, ROs.of_F rr⟩
    · cases hf
  · cases hf
end
end Pv
set_option Elab.async false
set_option linter.all false
set_option maxRecDepth 100000
/-! P29: tuple * n -/
namespace Pv
open PySem PySem.Spec PyProof.Rows L2
section
variable {X : Cx} {K : PySem.W.Frag} {G0 G G1 G' H H' : Hp}
theorem RepFs.flat {ds : List D} {xs : List V} (h : RepFs K G ds xs) : ∀ n, RepFs K G (List.replicate n ds).flatten (List.replicate n xs).flatten
  | 0 => rfl
  | n + 1 => by
    rw [List.replicate_succ, List.replicate_succ, List.flatten_cons, List.flatten_cons]
    exact h.append (RepFs.flat h n)
def rRepN (K : PySem.W.Frag) : R2 := fun x y H Q => rRep01 K x y H Q ∨ rRepT K x y H Q
theorem op_repN : OpR X (binaryOp .Mult) (rRepN X.K) := OpR.or op_rep01 op_repT
def gMulT2 : W → W → Option W
  | (_, .tup ds), (_, .int k) => if ds ≠ [] ∧ 2 ≤ k ∧ k ≤ 1000 ∧ ds.length ≤ 1000 then some (0, .tup (List.replicate k.toNat ds).flatten) else none
  | _, _ => none
theorem g_mulT2 : Op2 K (rRepT K) gMulT2 := by
  intro G H u v x y Fu Fv w e ru rv hw
  unfold gMulT2 at hw
  split at hw
  · obtain rfl := rv.int
    obtain ⟨a, xs, rfl, h1, h2⟩ := ru.tupE
    split at hw
    · rename_i hk
      cases hw
      refine Res.tup e (h2.flat _) fun Q q => ⟨a, _, xs, rfl, rfl, SqT.of (e _ _ h1), fun z => hk.1 ?_, hk.2.1, hk.2.2.1, by rw [h2.len]; exact hk.2.2.2, q⟩
      have := h2.len
      rw [z] at this
      exact List.eq_nil_of_length_eq_zero this.symm
    · cases hw
  · cases hw
def gMulN (u v : W) : Option W := (gMulT u v).orElse fun _ => gMulT2 u v
theorem g_mulN : Op2 K (rRepN K) gMulN := Op2.or g_mulT g_mulT2
end
end Pv
set_option Elab.async false
set_option linter.all false
set_option maxRecDepth 100000
/-! P30: x is True, x is None -/
namespace Pv
open PySem PySem.Spec PyProof.Rows L2
section
variable {X : Cx} {K : PySem.W.Frag} {G H : Hp}
def rIsB : R2 := fun x y H Q => ∃ a b, x = .bl a ∧ y = .bl b ∧ Q (.bl (decide (a = b))) H
theorem op_isB : OpR X (compareOp .Is) rIsB := by
  intro pins s σ H x y v u Q I rx ry h
  obtain ⟨m, n, rfl, rfl, q⟩ := h
  cases (show v = Value.bool m from rx)
  cases (show u = Value.bool n from ry)
  by_cases e : m = n
  · subst e
    exact wpAny_is_self rfl ⟨.bl true, H, I, rfl, by simpa using q⟩
  · exact wpAny_is_other rfl (fun z => e (Value.bool.inj z)) ⟨.bl false, H, I, rfl, by simpa [e] using q⟩
def gIsB : W → W → Option W
  | (_, .bl a), (_, .bl b) => some (0, .bl (decide (a = b)))
  | _, _ => none
theorem g_isB : Op2 K rIsB gIsB := by
  intro G H u v x y Fu Fv w e ru rv hw
  unfold gIsB at hw; split at hw
  · cases hw
    obtain rfl := ru.bl
    obtain rfl := rv.bl
    exact Res.pure (v := .bl _) e rfl fun Q q => ⟨_, _, rfl, rfl, q⟩
  · cases hw
def rIsA : R2 := fun x y H Q => (y = .non ∧ Q (.bl (decide (x = .non))) H) ∨ rIsB x y H Q
theorem op_isA : OpR X (compareOp .Is) rIsA := OpR.or op_isN op_isB
def gIsA (u v : W) : Option W := (gIsN u v).orElse fun _ => gIsB u v
@[simp] theorem isA_b {k l : Nat} {a b : Bool} : gIsA (k, .bl a) (l, .bl b) = some (0, .bl (decide (a = b))) := rfl
theorem g_isA : Op2 K rIsA gIsA := Op2.or g_isN g_isB
end
end Pv
set_option Elab.async false
set_option linter.all false
set_option maxRecDepth 100000
/-! P31: defs with defaults -/
namespace Pv
open PySem PySem.Spec PyProof.Rows L2
section
variable {P : Program} {w : World} {K : PySem.W.Frag} {mg : Str → Option Value} {base : Heap}
abbrev FunDD (K : PySem.W.Frag) (x qual : Str) (st : Stmt) (dvs : List V) (f : Addr) (fd : FuncData) : Prop := FunD K x qual (defArgs st) (defBody st) (defScope st) dvs [] f fd
theorem fnDD {x qual : Str} {st : Stmt} {dvs : List V} {f : Addr} {fd : FuncData} {N ps : List Str} {k : Nat} {m : List D → Option W} {bd : Fs} (F : FunDD K x qual st dvs f fd) (S : FnScope N ps (defScope st)) (len : ∀ ds w, m ds = some w → ds.length = ps.length)
    (hb : ∀ (cdv : Value) (A : Around) (outer : List PySem.Env) (s : Shared) (H : Hp), Room k (A.deeper (envOfC qual (defScope st) s.heap.objs.size f cdv)) → OkB (cxOf CX0 P w K mg base N qual (defScope st) f cdv A outer s H E0).nox (defBody st) bd)
    (hm : ∀ ds w, m ds = some w → runB N.length bd ds = some w) : FnOk P w K mg base CX0 (k + 1) f fd ps (spD K m) := by
  refine F.ok S (fun vs H Q E h => ?_) (fun cdv A outer s H vs Q E hr h => ?_)
  · obtain ⟨ds, w, h1, h2, _⟩ := h
    rw [h1.len]; exact len ds w h2
  · obtain ⟨ds, w, h1, h2, q⟩ := h
    have hb' : PSs _ _ _ := hb cdv A outer s H hr
    refine ⟨_, hb'.nox, ?_⟩
    have h3 := hm ds w h2
    unfold runB at h3
    obtain ⟨⟨fl, ρ'⟩, h4, h5⟩ := Option.bind_eq_some_iff.mp h3
    refine ⟨H, initE N.length ds, fl, ρ', SI.init h1, h4, ?_⟩
    cases fl with
    | rt w' => cases h5; exact fun v H' r => q v H' r
    | nx =>
      cases h5
      exact fun σ H' ⟨G, F1, F2, J⟩ => q _ H' ⟨G, [], J.ex0, J.ex, ⟨rfl, rfl⟩, List.nodup_nil, (fun a ha => by cases ha), J.tu⟩
    | bk => cases h5
    | ct => cases h5
theorem fnMD {x qual : Str} {st : Stmt} {dvs : List V} {f : Addr} {fd : FuncData} {N ps : List Str} {k : Nat} {bd : Fs} (F : FunDD K x qual st dvs f fd) (S : FnScope N ps (defScope st))
    (hb : ∀ (cdv : Value) (A : Around) (outer : List PySem.Env) (s : Shared) (H : Hp), Room k (A.deeper (envOfC qual (defScope st) s.heap.objs.size f cdv)) → OkB (cxOf CX0 P w K mg base N qual (defScope st) f cdv A outer s H E0).nox (defBody st) bd) :
    FnOk P w K mg base CX0 (k + 1) f fd ps (spD K (mkM N.length ps.length bd)) :=
  fnDD F S (fun ds u h => (mkM_some h).1) hb fun ds u h => (mkM_some h).2.1
theorem FnG.mkD {x : Str} {f : Addr} {fd : FuncData} {ps : List Str} {k n j : Nat} {bd : Fs} {dd : List D} {dvs : List V} {dus : List Value} (h : FnOk P w K mg base CX0 k f fd ps (spD K (mkM n j bd))) (hm : mg x = some (.ref f)) (hk : PySem.W.keepIn K (.ref f) = true) (hb : Binds K fd ps dus) (hv : Vals dvs dus) (hr : ∀ H, RepFs K H dd dvs) : FnG P w K mg base k x (mkM n j bd) dd :=
  ⟨⟨f, fd, ps, dvs, dus, h, hm, hk, hb, hv, hr⟩, mkM_cl⟩
theorem fund_mk {x qual : Str} {st : Stmt} {f T : Addr} {oc cT : Value} {od an oT : Option Addr} {osl sT : Array (Option Value)} {kV doc pm cdv ct : Value} {its : List Value} {n : Nat} {dvs : List V} (l : K.lookup f = some ⟨oc, od, .func (PySem.W.fnOf x qual (defArgs st) (defBody st) (defScope st) (.ref T) kV doc pm an cdv ct), osl⟩)
    (c : PySem.W.codeIn K cdv qual = true) (k : PySem.W.keepIn K (.ref f) = true) (lT : K.lookup T = some ⟨cT, oT, .seq its.toArray n, sT⟩) (hv : Vals dvs its) (hn : dvs ≠ []) : FunDD K x qual st dvs f (PySem.W.fnOf x qual (defArgs st) (defBody st) (defScope st) (.ref T) kV doc pm an cdv ct) :=
  ⟨⟨oc, od, .ref T, kV, doc, pm, an, cdv, ct, osl, rfl, l, c, .inr ⟨hn, T, _, its, n, rfl, lT, rfl, hv⟩, .inl rfl⟩, k⟩
/-- the empty tuple of the top -/
theorem rep_unit {U : Addr} {n : Nat} {sl : Array (Option Value)} (l : K.lookup U = some ⟨.type "tuple", none, .seq #[] n, sl⟩) (H : Hp) : RepF K H (.ktp []) (.ref U) :=
  ⟨U, [], rfl, .inl ⟨_, _, _, l, rfl, rfl, rfl, Nat.zero_le _, .nil⟩, rfl⟩
end
end Pv
set_option Elab.async false
set_option linter.all false
set_option maxRecDepth 100000
/-! P32: list.index, max(x, default=d) -/
namespace Pv
open PySem PySem.Spec PyProof.Rows L2
section
variable {X : Cx} {K : PySem.W.Frag} {G0 G G1 G' H H' : Hp} {σ : L2.St} {ρ : Env} {ws : List (V × Arg)} {F F1 F2 : List Addr} {e a b c : Expr} {es : List Expr} {pos : Pos} {A B C : Fe}
/-! ### list.index -/
def gLIndex : W → W → Option W
  | (k, .lst ds), (j, d) => if k ≤ 1 ∧ eqOk (j, d) = true then (toPys ds).bind fun ps => (toPy d).bind fun p => if SeqAt.shaped (.list ps) = true ∧ SeqAt.shaped p = true then (idxP p ps 0).map fun n => (0, .int (n : Nat)) else none else none
  | _, _ => none
theorem g_lindex : Op2 K (fun x y H Q => rIndexD K x [y] H Q) gLIndex := by
  intro G H u v x y Fu Fv w e ru rv hw
  unfold gLIndex at hw
  split at hw
  · split at hw
    · rename_i hk
      obtain ⟨ps, hps, hw⟩ := Option.bind_eq_some_iff.mp hw
      obtain ⟨p, hp, hw⟩ := Option.bind_eq_some_iff.mp hw
      split at hw
      · rename_i ok
        obtain ⟨n, hn, rfl⟩ := Option.map_eq_some_iff.mp hw
        obtain ⟨a, xs, rfl, h1, h2⟩ := ru.lst1 e hk.1
        obtain ⟨z, _, hz, he, hno⟩ := idxP_spec ps 0 n hn
        exact Res.pure (v := .int _) e rfl fun Q q => ⟨a, y, p, ps, n, z, rfl, rfl, .lst (SqL.of h1) (dps_of e _ ps xs hps h2), dp_ro e hk.2 hp rv, ok.1, ok.2, by simpa using hz, he, fun m z' hm hz' => hno m z' (by omega) hz', q⟩
      · cases hw
    · cases hw
  · cases hw
theorem e_lindex {apos cpos : Pos} (hu : X.A.units + 65 < cLine) (ha : OkE X a A) (hb : OkE X b B) (hfew : ((backTo cpos (starEach (b :: []) X.env)).all (fun x => !x.1) && (backToKw cpos (keywordEach [] X.env)).all (fun x => x.1.isSome)
      && decide ((b :: []).length + ([] : List Keyword).length + (if ([] : List Keyword).isEmpty then 0 else 1) < 30)) = true := by rfl) (hbase : attributeBase a "index" X.env (eval a X.env) = eval a X.env := by rfl)
    (hline : (apos.endLine == cpos.line) = true := by rfl) (hs : starEach (b :: []) X.env = (false, eval b X.env) :: starEach [] X.env := by rfl) : OkE X (.Call (.Attribute a "index" apos) [b] [] cpos) (pOp2 gLIndex A B) :=
  PE.imp (pe_bm PySem.F.plainAttrs_list PySem.F.slot_list_index PySem.F.type_list_index (mt_indexD hu) ha (a_cons hb a_nil hs) hbase hfew hline hs (by rfl)) (bmL_imp g_lindex fun G H u v x F w e ru hw => by
    unfold gLIndex at hw
    split at hw
    · split at hw
      · rename_i hk
        obtain ⟨a, xs, rfl, h1, h2⟩ := ru.lst1 e hk.1
        exact .inl ⟨rfl, _, SqL.of h1⟩
      · cases hw
    · cases hw)
/-! ### max(x, default=d), ints -/
def maxOr (d : Int) : List Int → Int
  | [] => d
  | n :: r => maxI n r
theorem maxI_fold : ∀ (r : List Int) (n : Int), r.foldl max n = maxI n r
  | [], _ => rfl
  | m :: r, n => by
    rw [List.foldl_cons]
    unfold maxI
    rw [← maxI_fold r]
    congr 1
    by_cases h : n < m
    · rw [if_pos h]; omega
    · rw [if_neg h]; omega
def rMaxDef (K : PySem.W.Frag) : List V → List V → Hp → VK → Prop := fun vs zs H Q => ∃ (a : Addr) (ns : List Int) (d : Int), vs = [V.ref a] ∧ zs = [V.int d] ∧ SqL K H a (ns.map V.int) ∧ Q (.int (maxOr d ns)) H
theorem dp_ints : ∀ ns : List Int, DpAll K H (ns.map V.int) (ns.map PyData.int)
  | [] => .nil
  | n :: ns => .cons (.int n) (dp_ints ns)
theorem depth_ints : ∀ ns : List Int, PyData.depthAll (ns.map PyData.int) = 0
  | [] => rfl
  | n :: ns => by
    show max (PyData.depth (.int n)) (PyData.depthAll (ns.map PyData.int)) = 0
    rw [depth_ints ns]; simp [PyData.depth]
theorem cr_maxDef (hc : X.calm = true) (hu : X.A.units + 64 < cLine) : CallRK X (.builtin "max") [Str.ofString "default"] (rMaxDef X.K) := by
  intro pins s σ H vs zs us ws Q I r rz h
  obtain ⟨a, ns, d, rfl, rfl, hs, q⟩ := h
  obtain ⟨its, rv, hl, _⟩ := I.list hs
  rw [Vals.ref1 r]
  obtain ⟨w1, rfl, t, e1⟩ := vals1 rz
  subst e1
  obtain ⟨as, hr⟩ := Dp.readsAll I (ns.map PyData.int) _ its (dp_ints ns) rv
  refine PySem.W.max_list_default (I.ok.hd hc) hl.isList hr ⟨fun x hx y hy => ?_, fun x hx => ?_⟩ (by rw [depth_ints]; omega) (fun h0 h' tk hk => ?_) (fun y ys i v h' tk bs h1 h2 h3 hk => ?_)
  · obtain ⟨m, _, rfl⟩ := List.mem_map.mp hx
    obtain ⟨n, _, rfl⟩ := List.mem_map.mp hy
    rfl
  · obtain ⟨m, _, rfl⟩ := List.mem_map.mp hx
    exact fun z => by cases z
  · cases ns with
    | nil => exact ⟨.int _, H, I.kept hk, ⟨_, rfl⟩, q⟩
    | cons n r => cases h0
  · cases ns with
    | nil => cases h1
    | cons n r =>
      cases h1
      rw [PySem.W.maxD_ints, maxI_fold] at h3
      cases h3
      exact ⟨.int _, H, I.kept hk, ⟨_, rfl⟩, q⟩
def gMaxDef : W → W → Option W := fun u v => (listD u).bind fun ds => (intsD ds).bind fun ns => match v with
  | (_, .int d) => some (0, .int (maxOr d ns))
  | _ => none
theorem g_maxDef : Op2 K (fun x y H Q => rMaxDef K [x] [y] H Q) gMaxDef := by
  intro G H u v x y Fu Fv w e ru rv hw
  obtain ⟨ds, hd, hw⟩ := Option.bind_eq_some_iff.mp hw
  obtain ⟨ns, hn, hw⟩ := Option.bind_eq_some_iff.mp hw
  obtain ⟨a, xs, rfl, h1, h2⟩ := list_rep e hd ru
  have := ints_rep hn h2
  subst this
  split at hw
  · cases hw
    obtain rfl := rv.int
    exact Res.pure (v := .int _) e rfl fun Q q => ⟨a, ns, _, rfl, rfl, h1, q⟩
  · cases hw
theorem e_maxDef {p : Pos} {kp : Pos} (hc : X.calm = true) (hu : X.A.units + 64 < cLine) (hg : Gl X "max") (hm : X.mg "max" = none) (ha : OkE X a A) (hb : OkE X b B) (hs : starEach (a :: []) X.env = (false, eval a X.env) :: starEach [] X.env := by rfl)
    (he : backTo pos (starEach [a] X.env) = (false, eval a X.env) :: backTo pos (starEach [] X.env) := by rfl) (hpl : (backTo pos (starEach [a] X.env)).any (·.1) = false := by rfl)
    (hall : (backToKw pos (keywordEach [⟨some "default", b, kp⟩] X.env)).all (·.1.isSome) = true := by rfl) (hnone : (backToKw pos (keywordEach [⟨some "default", b, kp⟩] X.env)).any (·.1.isNone) = false := by rfl) (hks : (backToKw pos (keywordEach [⟨some "default", b, kp⟩] X.env)).filterMap (·.1) = [Str.ofString "default"] := by rfl) :
    OkE X (.Call (.Name "max" p) [a] [⟨some "default", b, kp⟩] pos) (pOp2 gMaxDef A B) :=
  PE.imp (pe_callBK (cr_maxDef hc hu) hg hm (by rfl) (pa_cons ha pa_nil hs) (pk_cons hb pk_nil) (by decide) (by decide) he hpl hall hnone hks) fun σ H Q h =>
    op2_imp (r := fun x y H Q => rMaxDef X.K [x] [y] H Q) g_maxDef σ H Q h
end
end Pv
set_option Elab.async false
set_option linter.all false
set_option maxRecDepth 100000
/-! R1: running the data, by simp; what holds behind a statement (Wp) -/
namespace Pv
open PySem L2
section
variable {ρ ρ1 : Env} {A B C : Fe} {T U : Fb} {f g : Fs} {i j n k l : Nat} {d c : D} {w u v : W} {t : Tg} {Q : Fl → Env → Prop}
/-- what holds behind a run -/
@[irreducible] def Wp (x : Option (Fl × Env)) (Q : Fl → Env → Prop) : Prop := match x with
  | some p => Q p.1 p.2
  | none => False
@[simp] theorem wp_some {fl : Fl} : Wp (some (fl, ρ)) Q = Q fl ρ := by unfold Wp; rfl
@[simp] theorem wp_none : Wp none Q = False := by unfold Wp; rfl
theorem Wp.mono {x : Option (Fl × Env)} {Q Q' : Fl → Env → Prop} (h : Wp x Q) (i : ∀ fl ρ, Q fl ρ → Q' fl ρ) : Wp x Q' := by
  rcases x with _ | ⟨fl, ρ⟩
  · rw [wp_none] at h; exact h.elim
  · rw [wp_some] at h ⊢; exact i _ _ h
theorem Wp.ex {x : Option (Fl × Env)} (h : Wp x Q) : ∃ fl ρ, x = some (fl, ρ) ∧ Q fl ρ := by
  rcases x with _ | ⟨fl, ρ⟩
  · rw [wp_none] at h; exact h.elim
  · rw [wp_some] at h; exact ⟨_, _, rfl, h⟩
def thenQ (g : Fs) (Q : Fl → Env → Prop) : Fl → Env → Prop
  | .nx, ρ => Wp (g ρ) Q
  | .bk, ρ => Q .bk ρ
  | .ct, ρ => Q .ct ρ
  | .rt w, ρ => Q (.rt w) ρ
@[simp] theorem thenQ_nx : thenQ g Q .nx ρ = Wp (g ρ) Q := rfl
@[simp] theorem thenQ_bk : thenQ g Q .bk ρ = Q .bk ρ := rfl
@[simp] theorem thenQ_ct : thenQ g Q .ct ρ = Q .ct ρ := rfl
@[simp] theorem thenQ_rt : thenQ g Q (.rt w) ρ = Q (.rt w) ρ := rfl
@[simp] theorem wp_seq : Wp (bSeq f g ρ) Q = Wp (f ρ) (thenQ g Q) := by
  unfold bSeq
  rcases f ρ with _ | ⟨fl, ρ'⟩
  · simp
  · cases fl <;> simp
@[simp] theorem wp_nil : Wp (bNil ρ) Q = Q .nx ρ := by unfold bNil; simp
@[simp] theorem wp_pass : Wp (sPass ρ) Q = Q .nx ρ := by unfold sPass; simp
@[simp] theorem wp_break : Wp (sBreak ρ) Q = Q .bk ρ := by unfold sBreak; simp
@[simp] theorem wp_cont : Wp (sCont ρ) Q = Q .ct ρ := by unfold sCont; simp
def iteP : Option Bool → Prop → Prop → Prop
  | some b, P, R => (b = true → P) ∧ (b = false → R)
  | none, _, _ => False
@[simp] theorem iteP_t {P R : Prop} : iteP (some true) P R = P := by simp [iteP]
@[simp] theorem iteP_f {P R : Prop} : iteP (some false) P R = R := by simp [iteP]
theorem iteP_b {b : Bool} {P R : Prop} : iteP (some b) P R = ((b = true → P) ∧ (b = false → R)) := rfl
@[simp] theorem wp_if : Wp (sIf T f g ρ) Q = iteP (T ρ) (Wp (f ρ) Q) (Wp (g ρ) Q) := by
  unfold sIf
  rcases T ρ with _ | b
  · simp [iteP]
  · cases b <;> simp
def asgP (i : Nat) : Option Arg → Env → (Fl → Env → Prop) → Prop
  | some (.v k d), ρ, Q => i < ρ.length ∧ Q .nx (ρ.set i (some (k, d)))
  | _, _, _ => False
@[simp] theorem asgP_s : asgP i (some (.v k d)) ρ Q = (i < ρ.length ∧ Q .nx (ρ.set i (some (k, d)))) := rfl
@[simp] theorem wp_asg : Wp (sAsg i A ρ) Q = asgP i (A ρ) ρ Q := by
  rw [r_asg]
  unfold asgR asgP
  rcases A ρ with _ | a
  · simp
  · cases a with
    | r x => simp
    | v k d =>
      by_cases h : i < ρ.length
      · simp [h]
      · simp [h]
@[irreducible] def bindP (t : Tg) (f : Fs) (d : D) (ρ : Env) (Q : Fl → Env → Prop) : Prop := match bindT t (0, d) ρ with
  | some ρ1 => Wp (f ρ1) Q
  | none => False
/-- one turn: the target bound, then the body -/
theorem for_cons {ds : List D} : Wp (loopF t f (d :: ds) ρ) Q = bindP t f d ρ (fun fl ρ' => match fl with | .nx => Wp (loopF t f ds ρ') Q | .ct => Wp (loopF t f ds ρ') Q | .bk => Q .nx ρ' | .rt w => Q (.rt w) ρ') := by
  rw [l_cons]
  unfold bindP bindR
  rcases bindT t (0, d) ρ with _ | ρ1
  · simp
  · show Wp (stepL t f ds (f ρ1)) Q = Wp (f ρ1) _
    rcases f ρ1 with _ | ⟨fl, ρ2⟩
    · simp [stepL]
    · cases fl <;> simp [stepL]
def turnQ (N : Env → Prop) (Q : Fl → Env → Prop) : Fl → Env → Prop
  | .nx, ρ => N ρ
  | .ct, ρ => N ρ
  | .bk, ρ => Q .nx ρ
  | .rt w, ρ => Q (.rt w) ρ
@[simp] theorem turnQ_nx {N : Env → Prop} : turnQ N Q .nx ρ = N ρ := rfl
@[simp] theorem turnQ_ct {N : Env → Prop} : turnQ N Q .ct ρ = N ρ := rfl
@[simp] theorem turnQ_bk {N : Env → Prop} : turnQ N Q .bk ρ = Q .nx ρ := rfl
@[simp] theorem turnQ_rt {N : Env → Prop} : turnQ N Q (.rt w) ρ = Q (.rt w) ρ := rfl
theorem bindP_mono {Q Q' : Fl → Env → Prop} (h : bindP t f d ρ Q) (i : ∀ fl ρ, Q fl ρ → Q' fl ρ) : bindP t f d ρ Q' := by
  unfold bindP at h ⊢
  cases hb : bindT t (0, d) ρ with
  | none => rw [hb] at h; exact h
  | some ρ1 => rw [hb] at h; exact Wp.mono h i
@[simp] theorem bindP_nm : bindP (.nm i) f d ρ Q = (i < ρ.length ∧ Wp (f (ρ.set i (some (0, d)))) Q) := by
  unfold bindP
  rw [bind_nm]
  by_cases h : i < ρ.length
  · simp [h]
  · simp [h]
@[simp] theorem bindP_tp2 {a b : D} : bindP (.tp [.nm i, .nm j]) f (.tup [a, b]) ρ Q = (i < ρ.length ∧ j < ρ.length ∧ Wp (f ((ρ.set i (some (0, a))).set j (some (0, b)))) Q) := by
  unfold bindP bindT
  simp only [List.length_cons, List.length_nil, if_true, bindTs, bind_nm]
  by_cases h : i < ρ.length
  · by_cases h2 : j < ρ.length
    · simp [h, h2]
    · simp [h, h2]
  · simp [h]
/-- A LOOP by what holds of the part taken -/
theorem wp_for {α : Type} {inj : α → D} (xs : List α) (I : List α → Env → Prop) {ds : List D} (hds : ds = xs.map inj) (h0 : I [] ρ)
    (hs : ∀ (pre : List α) (a : α) (post : List α) (ρ : Env), xs = pre ++ a :: post → I pre ρ → bindP t f (inj a) ρ (turnQ (I (pre ++ [a])) Q)) (hQ : ∀ ρ', I xs ρ' → Q .nx ρ') : Wp (loopF t f ds ρ) Q := by
  subst hds
  have key : ∀ (post pre : List α) (ρ : Env), xs = pre ++ post → I pre ρ → Wp (loopF t f (post.map inj) ρ) Q := by
    intro post
    induction post with
    | nil => intro pre ρ e h; rw [List.append_nil] at e; subst e; rw [List.map_nil, l_nil, wp_some]; exact hQ ρ h
    | cons a post ih =>
      intro pre ρ e h
      rw [List.map_cons, for_cons]
      refine bindP_mono (hs pre a post ρ e h) fun fl ρ' q => ?_
      cases fl with
      | nx => exact ih (pre ++ [a]) ρ' (by rw [e]; simp) q
      | ct => exact ih (pre ++ [a]) ρ' (by rw [e]; simp) q
      | bk => exact q
      | rt w => exact q
  exact key xs [] ρ rfl h0
/-- range(n): by the number of turns -/
theorem wp_range (m : Nat) (I : Nat → Env → Prop) {ds : List D} (hds : ds = rngD 0 m) (h0 : I 0 ρ) (hs : ∀ (a : Nat) (ρ : Env), a < m → I a ρ → bindP t f (.int (a : Nat)) ρ (turnQ (I (a + 1)) Q)) (hQ : ∀ ρ', I m ρ' → Q .nx ρ') : Wp (loopF t f ds ρ) Q := by
  subst hds
  refine wp_for (inj := fun a : Nat => D.int (a : Nat)) (List.range m) (fun pre => I pre.length) (by unfold rngD; simp) h0 (fun pre a post ρ e h => ?_) (fun ρ' h => hQ ρ' (by simpa using h))
  have hp : pre.length = a := by
    have h1 : (List.range m)[pre.length]? = some a := by rw [e]; simp
    have h2 := List.getElem?_eq_some_iff.mp h1
    obtain ⟨h3, h4⟩ := h2
    simpa using h4
  have ha : a < m := by
    have : a ∈ List.range m := by rw [e]; simp
    simpa using this
  rw [List.length_append, hp]
  exact hs a ρ ha (by rw [← hp]; exact h)
/-- A WHILE by a number that falls -/
theorem wp_while (I : Nat → Env → Prop) {m N : Nat} (h0 : I m ρ) (hm : m < N) (hs : ∀ (m : Nat) (ρ : Env), I m ρ → iteP (T ρ) (Wp (f ρ) (turnQ (fun ρ' => ∃ m', m' < m ∧ I m' ρ') Q)) (Q .nx ρ)) : Wp (sWhile N T f ρ) Q := by
  have key : ∀ (N m : Nat) (ρ : Env), m < N → I m ρ → Wp (loopW T f N ρ) Q := by
    intro N
    induction N with
    | zero => intro m ρ h; omega
    | succ N ih =>
      intro m ρ h hI
      have h1 := hs m ρ hI
      have e0 : loopW T f (N + 1) ρ = (T ρ).bind fun c => if c = true then (f ρ).bind fun p => match p.1 with
        | .nx => loopW T f N p.2
        | .ct => loopW T f N p.2
        | .bk => some (.nx, p.2)
        | .rt w => some (.rt w, p.2)
        else some (.nx, ρ) := rfl
      rw [e0]
      rcases hT : T ρ with _ | b
      · rw [hT] at h1; exact h1.elim
      · rw [hT] at h1
        cases b with
        | false => rw [iteP_f] at h1; simp; exact h1
        | true =>
          rw [iteP_t] at h1
          simp only [Option.bind_some, if_true]
          obtain ⟨fl, ρ2, e, q⟩ := h1.ex
          rw [e]
          cases fl with
          | nx => obtain ⟨m', hm', hI'⟩ := q; simp; exact ih m' ρ2 (by omega) hI'
          | ct => obtain ⟨m', hm', hI'⟩ := q; simp; exact ih m' ρ2 (by omega) hI'
          | bk => simp; exact q
          | rt w => simp; exact q
  exact key N m ρ hm h0
/-- a def, by its body -/
theorem def_of {n k : Nat} {bd : Fs} {ds : List D} {w : W} (h : ds.length = k) (hc : cleanD w.1 w.2 = true) (hw : ∀ Q : Fl → Env → Prop, (∀ ρ, Q (.rt w) ρ) → Wp (bd (initE n ds)) Q) : mkM n k bd ds = some w := by
  rw [r_m h]
  obtain ⟨fl, ρ, e, q⟩ := (hw (fun fl _ => fl = .rt w) fun _ => rfl).ex
  rw [e, q, fin_rt, if_pos hc]
theorem clean0 (d : D) : cleanD 0 d = noBox d := by cases d <;> rfl
theorem def_of0 {n k : Nat} {bd : Fs} {ds : List D} {d : D} (h : ds.length = k) (hc : noBox d = true) (hw : ∀ Q : Fl → Env → Prop, (∀ ρ, Q (.rt (0, d)) ρ) → Wp (bd (initE n ds)) Q) : mkM n k bd ds = some (0, d) := def_of h (by show cleanD 0 d = true; rw [clean0]; exact hc) hw
theorem def_ex {n k : Nat} {bd : Fs} {ds : List D} (P : W → Prop) (h : ds.length = k) (hc : ∀ w, P w → cleanD w.1 w.2 = true) (hw : ∀ Q : Fl → Env → Prop, (∀ w ρ, P w → Q (.rt w) ρ) → Wp (bd (initE n ds)) Q) : ∃ w, mkM n k bd ds = some w ∧ P w := by
  rw [r_m h]
  obtain ⟨fl, ρ, e, w, q, hp⟩ := (hw (fun fl _ => ∃ w, fl = .rt w ∧ P w) fun w ρ h => ⟨w, rfl, h⟩).ex
  exact ⟨w, by rw [e, q, fin_rt, if_pos (hc w hp)], hp⟩
@[simp] theorem initE_s {n : Nat} {ds : List D} : initE n ds = ds.map (fun d => some (0, d)) ++ List.replicate (n - ds.length) none := rfl
@[simp] theorem repl_s {α : Type} {n : Nat} {a : α} : List.replicate (n + 1) a = a :: List.replicate n a := rfl
end
end Pv
set_option Elab.async false
set_option linter.all false
set_option maxRecDepth 100000
/-! R2: running expressions by simp -/
namespace Pv
open PySem L2
section
variable {ρ ρ1 : Env} {A B C : Fe} {T U : Fb} {f g : Fs} {i j n k l : Nat} {d c : D} {w u v : W} {t : Tg} {Q : Fl → Env → Prop}
@[simp] theorem wp_ite {b : Prop} [Decidable b] {x : Option (Fl × Env)} : Wp (if b then x else none) Q = (b ∧ Wp x Q) := by
  by_cases h : b
  · simp [h]
  · simp [h]
@[simp] theorem iteP_not {b : Bool} {P R : Prop} : iteP (some (!b)) P R = iteP (some b) R P := by cases b <;> simp
@[simp] theorem iteP_dec {b : Prop} [Decidable b] {P R : Prop} : iteP (some (decide b)) P R = ((b → P) ∧ (¬ b → R)) := by simp [iteP_b]
/-! operations -/
@[simp] theorem add_i {a b : Int} : gAdd (k, .int a) (l, .int b) = some (0, .int (a + b)) := rfl
@[simp] theorem add_t {a b : List D} : gAdd (k, .tup a) (l, .tup b) = if a.length + b.length ≤ 1000000 then some (0, .tup (a ++ b)) else none := (rfl)
@[simp] theorem add_l {a b : List D} : gAdd (k, .lst a) (l, .lst b) = if k ≤ 1 ∧ l ≤ 1 ∧ a.length + b.length ≤ 1000000 then some (1, .lst (a ++ b)) else none := (rfl)
@[simp] theorem add_s {a b : Str} : gAdd (k, .str a) (l, .str b) = if a.length + b.length ≤ 1000000 then some (0, .str (a ++ b)) else none := (rfl)
@[simp] theorem sub_i {a b : Int} : gSub (k, .int a) (l, .int b) = some (0, .int (a - b)) := rfl
@[simp] theorem mul_i {a b : Int} : gMulI (k, .int a) (l, .int b) = if (-(2 ^ 64) < b ∧ b < 2 ^ 64) ∨ (-(2 ^ 64) < a ∧ a < 2 ^ 64) then some (0, .int (a * b)) else none := (rfl)
@[simp] theorem fdiv_i {a b : Int} : gFdiv (k, .int a) (l, .int b) = if 0 < b ∧ b < 1073741824 then some (0, .int (a / b)) else none := (rfl)
@[simp] theorem mod_i {a b : Int} : gMod (k, .int a) (l, .int b) = if 0 < b then some (0, .int (a % b)) else none := (rfl)
@[simp] theorem neg_i {a : Int} : gNeg (k, .int a) = some (0, .int (-a)) := rfl
@[simp] theorem cmp_i {p : Int → Int → Bool} {a b : Int} : gCmpI p (k, .int a) (l, .int b) = some (0, .bl (p a b)) := rfl
@[simp] theorem addI_i {a b : Int} : gAddI (k, .int a) (l, .int b) = some (0, .int (a + b)) := rfl
@[simp] theorem eq_i {a b : Int} : gEq (k, .int a) (l, .int b) = some (0, .bl (decide (a = b))) := by simp [gEq, eqOk, isBox, gEqD, gEqS]
@[simp] theorem eq_s {a b : Str} : gEq (k, .str a) (l, .str b) = some (0, .bl (decide (a = b))) := by simp [gEq, eqOk, isBox, gEqD, gEqS]
@[simp] theorem eq_b {a b : Bool} : gEq (k, .bl a) (l, .bl b) = some (0, .bl (decide (a = b))) := by simp [gEq, eqOk, isBox, gEqD, gEqS]
@[simp] theorem eq_nn : gEq (k, .non) (l, .non) = some (0, .bl true) := by simp [gEq, eqOk, isBox, gEqD, gEqS]
@[simp] theorem eq_ni {b : Int} : gEq (k, .non) (l, .int b) = some (0, .bl false) := by simp [gEq, eqOk, isBox, gEqD, gEqS]
@[simp] theorem eq_in {b : Int} : gEq (k, .int b) (l, .non) = some (0, .bl false) := by simp [gEq, eqOk, isBox, gEqD, gEqS]
@[simp] theorem ne_i {a b : Int} : gNe (k, .int a) (l, .int b) = some (0, .bl (!decide (a = b))) := by simp [gNe, eqOk, isBox, gEqD, gEqS]
@[simp] theorem ne_s {a b : Str} : gNe (k, .str a) (l, .str b) = some (0, .bl (!decide (a = b))) := by simp [gNe, eqOk, isBox, gEqD, gEqS]
@[simp] theorem ne_b {a b : Bool} : gNe (k, .bl a) (l, .bl b) = some (0, .bl (!decide (a = b))) := by simp [gNe, eqOk, isBox, gEqD, gEqS]
@[simp] theorem ne_nn : gNe (k, .non) (l, .non) = some (0, .bl false) := by simp [gNe, eqOk, isBox, gEqD, gEqS]
@[simp] theorem ne_ni {b : Int} : gNe (k, .non) (l, .int b) = some (0, .bl true) := by simp [gNe, eqOk, isBox, gEqD, gEqS]
@[simp] theorem ne_in {b : Int} : gNe (k, .int b) (l, .non) = some (0, .bl true) := by simp [gNe, eqOk, isBox, gEqD, gEqS]
@[simp] theorem isN_w : gIsN (k, d) (l, .non) = some (0, .bl (isNon d)) := rfl
@[simp] theorem notN_w : gNotN (k, d) (l, .non) = some (0, .bl (!isNon d)) := rfl
@[simp] theorem isNon_n : isNon .non = true := rfl
@[simp] theorem isNon_i {a : Int} : isNon (.int a) = false := rfl
@[simp] theorem isNon_t {a : List D} : isNon (.tup a) = false := rfl
@[simp] theorem isNon_s {a : Str} : isNon (.str a) = false := rfl
@[simp] theorem isNon_b {a : Bool} : isNon (.bl a) = false := rfl
@[simp] theorem isNon_l {a : List D} : isNon (.lst a) = false := rfl
@[simp] theorem int_i {a : Int} : gInt (k, .int a) = some (0, .int a) := rfl
@[simp] theorem int_b {b : Bool} : gInt (k, .bl b) = some (0, .int (if b then 1 else 0)) := rfl
@[simp] theorem abs_i {a : Int} : gAbs (k, .int a) = some (0, .int (if a < 0 then -a else a)) := rfl
@[simp] theorem len_l {ds : List D} : gLen (k, .lst ds) = some (0, .int (ds.length : Nat)) := rfl
@[simp] theorem len_t {ds : List D} : gLen (k, .tup ds) = some (0, .int (ds.length : Nat)) := rfl
@[simp] theorem len_k {ds : List D} : gLen (k, .ktp ds) = some (0, .int (ds.length : Nat)) := rfl
@[simp] theorem len_c {ns : List Int} : gLen (k, .scr ns) = some (0, .int (ns.length : Nat)) := rfl
@[simp] theorem len_s {z : Str} : gLen (k, .str z) = if z.length ≤ 1000000 then some (0, .int (z.length : Nat)) else none := (rfl)
@[simp] theorem sq_l {ds : List D} : seqD (.lst ds) = some (true, ds) := rfl
@[simp] theorem sq_t {ds : List D} : seqD (.tup ds) = some (false, ds) := rfl
@[simp] theorem sq_k {ds : List D} : seqD (.ktp ds) = some (false, ds) := rfl
@[simp] theorem ld_l {ds : List D} : listD (k, .lst ds) = if k ≤ 1 then some ds else none := (rfl)
@[simp] theorem tupOf_l {ds : List D} : gTupOf (k, .lst ds) = if k ≤ 1 then some (0, .tup ds) else none := (rfl)
@[simp] theorem tupOf_t {ds : List D} : gTupOf (k, .tup ds) = some (0, .tup ds) := rfl
@[simp] theorem tupOf_k {ds : List D} : gTupOf (k, .ktp ds) = some (0, .ktp ds) := rfl
@[simp] theorem tru_bl {b : Bool} : truth (k, .bl b) = some b := rfl
@[simp] theorem tru_non : truth (k, .non) = some false := rfl
@[simp] theorem tru_int {a : Int} : truth (k, .int a) = some (a != 0) := rfl
@[simp] theorem tru_tup {ds : List D} : truth (k, .tup ds) = some (!ds.isEmpty) := rfl
@[simp] theorem tru_lst {ds : List D} : truth (k, .lst ds) = some (!ds.isEmpty) := rfl
@[simp] theorem box_i {a : Int} : isBox (.int a) = false := rfl
@[simp] theorem box_n : isBox .non = false := rfl
@[simp] theorem box_b {a : Bool} : isBox (.bl a) = false := rfl
@[simp] theorem box_s {a : Str} : isBox (.str a) = false := rfl
@[simp] theorem box_t {a : List D} : isBox (.tup a) = false := rfl
@[simp] theorem box_k {a : List D} : isBox (.ktp a) = false := rfl
@[simp] theorem box_c {a : List Int} : isBox (.scr a) = false := rfl
@[simp] theorem box_l {a : List D} : isBox (.lst a) = true := rfl
@[simp] theorem box_d {b : Bool} {a : List (List Key × D)} : isBox (.dct b a) = true := rfl
/-! places -/
@[simp] theorem atI_n {α : Type} {xs : List α} {n : Nat} : atI xs (n : Int) = xs[n]? := by
  cases h : xs[n]? with
  | some v => exact atI_nat h
  | none =>
    have : xs.length ≤ n := List.getElem?_eq_none_iff.mp h
    unfold atI ixN
    rw [if_pos (by omega), if_neg (by omega)]; rfl
@[simp] theorem atI_0 {α : Type} {xs : List α} : atI xs 0 = xs[0]? := atI_n (n := 0)
@[simp] theorem atI_1 {α : Type} {xs : List α} : atI xs 1 = xs[1]? := atI_n (n := 1)
@[simp] theorem atI_lit {α : Type} {xs : List α} (n : Nat) : atI xs (no_index (OfNat.ofNat n : Int)) = xs[n]? := atI_n (n := n)
theorem atI_pos {α : Type} {xs : List α} {z : Int} (h : 0 ≤ z) : atI xs z = xs[z.toNat]? := by
  obtain ⟨n, rfl⟩ := Int.eq_ofNat_of_zero_le h
  rw [atI_n]; simp
@[simp] theorem ix_l {ds : List D} {a : Int} : gIx (k, .lst ds) (l, .int a) = if k ≤ 1 then (atI ds a).map fun d => (0, d) else none := (rfl)
@[simp] theorem ix_t {ds : List D} {a : Int} : gIx (k, .tup ds) (l, .int a) = (atI ds a).map fun d => (0, d) := rfl
@[simp] theorem ix_k {ds : List D} {a : Int} : gIx (k, .ktp ds) (l, .int a) = (atI ds a).map fun d => (0, d) := rfl
@[simp] theorem ix_c {ds : List Int} {a : Int} : gIx (k, .scr ds) (l, .int a) = (atI ds a).map fun n => (0, .int n) := rfl
@[simp] theorem ix_z {z : Str} {a : Int} : gIx (k, .str z) (l, .int a) = if z.length ≤ 1000000 then (atI z.cps.toList a).map fun c => (0, .str ⟨#[c]⟩) else none := (rfl)
/-! isinstance -/
@[simp] theorem isi_r {c : Ty} : pIsi c A = pOp1 (gIsi c) A := rfl
@[simp] theorem isi_i {c : Ty} {a : Int} : gIsi c (k, .int a) = some (0, .bl (isiB .int c)) := rfl
@[simp] theorem isi_b {c : Ty} {a : Bool} : gIsi c (k, .bl a) = some (0, .bl (isiB .bl c)) := rfl
@[simp] theorem isi_n {c : Ty} : gIsi c (k, .non) = some (0, .bl (isiB .non c)) := rfl
@[simp] theorem isi_s {c : Ty} {a : Str} : gIsi c (k, .str a) = some (0, .bl (isiB .str c)) := rfl
@[simp] theorem isi_t {c : Ty} {a : List D} : gIsi c (k, .tup a) = some (0, .bl (isiB .tup c)) := rfl
@[simp] theorem isi_k {c : Ty} {a : List D} : gIsi c (k, .ktp a) = some (0, .bl (isiB .tup c)) := rfl
@[simp] theorem isi_l {c : Ty} {a : List D} : gIsi c (k, .lst a) = some (0, .bl (isiB .lst c)) := rfl
@[simp] theorem isiB_d {a c : Ty} : isiB a c = decide (a = c ∨ (a = .bl ∧ c = .int)) := by cases a <;> cases c <;> rfl
/-! and, or, not, if, chains -/
def andV (A B : Fe) : Option Bool → Env → Option Arg
  | some true, ρ => B ρ
  | some false, _ => some (.v 0 (.bl false))
  | none, _ => none
@[simp] theorem andV_t : andV A B (some true) ρ = B ρ := rfl
@[simp] theorem andV_f : andV A B (some false) ρ = some (.v 0 (.bl false)) := rfl
@[simp] theorem r_andV : pAnd A B ρ = andV A B (bVal A ρ) ρ := by
  unfold pAnd
  rcases bVal A ρ with _ | b
  · rfl
  · cases b <;> rfl
def orV (A B : Fe) : Option Bool → Env → Option Arg
  | some false, ρ => B ρ
  | some true, _ => some (.v 0 (.bl true))
  | none, _ => none
@[simp] theorem orV_f : orV A B (some false) ρ = B ρ := rfl
@[simp] theorem orV_t : orV A B (some true) ρ = some (.v 0 (.bl true)) := rfl
@[simp] theorem r_orV : pOr A B ρ = orV A B (bVal A ρ) ρ := by
  unfold pOr
  rcases bVal A ρ with _ | b
  · rfl
  · cases b <;> rfl
def andW (B : Fe) : Option Bool → Env → Option W
  | some true, ρ => val B ρ
  | some false, _ => some (0, .bl false)
  | none, _ => none
@[simp] theorem andW_t : andW B (some true) ρ = val B ρ := rfl
@[simp] theorem andW_f : andW B (some false) ρ = some (0, .bl false) := rfl
@[simp] theorem v_andV : val (pAnd A B) ρ = andW B (bVal A ρ) ρ := by
  unfold val
  rw [r_andV]
  rcases bVal A ρ with _ | b
  · rfl
  · cases b <;> rfl
def orW (B : Fe) : Option Bool → Env → Option W
  | some false, ρ => val B ρ
  | some true, _ => some (0, .bl true)
  | none, _ => none
@[simp] theorem orW_f : orW B (some false) ρ = val B ρ := rfl
@[simp] theorem orW_t : orW B (some true) ρ = some (0, .bl true) := rfl
@[simp] theorem v_orV : val (pOr A B) ρ = orW B (bVal A ρ) ρ := by
  unfold val
  rw [r_orV]
  rcases bVal A ρ with _ | b
  · rfl
  · cases b <;> rfl
/-- where the second is a truth, too -/
theorem andW_b {b c : Bool} (h : val B ρ = some (0, .bl c)) : andW B (some b) ρ = some (0, .bl (b && c)) := by cases b <;> simp [h]
theorem orW_b {b c : Bool} (h : val B ρ = some (0, .bl c)) : orW B (some b) ρ = some (0, .bl (b || c)) := by cases b <;> simp [h]
theorem andR_b {b c : Bool} (h : U ρ = some c) : andR (some b) U ρ = some (b && c) := by cases b <;> simp [h]
theorem orR_b {b c : Bool} (h : U ρ = some c) : orR (some b) U ρ = some (b || c) := by cases b <;> simp [h]
def notV : Option W → Option W
  | some w => (truth w).map fun b => (0, .bl (!b))
  | none => none
@[simp] theorem notV_b {b : Bool} : notV (some (k, .bl b)) = some (0, .bl (!b)) := rfl
theorem r_notV : pNot A ρ = argR (notV (val A ρ)) := by
  unfold pNot notV argR
  rcases val A ρ with _ | w
  · rfl
  · show Option.map _ (truth w) = _
    cases h : truth w <;> simp [h]
@[simp] theorem r_notV' : pNot A ρ = argR (notV (val A ρ)) := r_notV
@[simp] theorem v_notV : val (pNot A) ρ = notV (val A ρ) := val_arg r_notV
def ifW : Option Bool → Fe → Fe → Env → Option W
  | some true, A, _, ρ => val A ρ
  | some false, _, B, ρ => val B ρ
  | none, _, _, _ => none
@[simp] theorem ifW_t : ifW (some true) A B ρ = val A ρ := rfl
@[simp] theorem ifW_f : ifW (some false) A B ρ = val B ρ := rfl
@[simp] theorem v_ifV : val (pIf T A B) ρ = ifW (T ρ) A B ρ := by
  unfold val
  rw [r_ife]
  rcases T ρ with _ | b
  · rfl
  · cases b <;> rfl
def chW (g' : W → W → Option W) (v : W) (C : Fe) (ρ : Env) : Option W → Option W
  | some (_, .bl true) => g2R g' (some v) (val C ρ)
  | some (_, .bl false) => some (0, .bl false)
  | _ => none
@[simp] theorem chW_t {g' : W → W → Option W} : chW g' v C ρ (some (k, .bl true)) = g2R g' (some v) (val C ρ) := rfl
@[simp] theorem chW_f {g' : W → W → Option W} : chW g' v C ρ (some (k, .bl false)) = some (0, .bl false) := rfl
theorem chW_b {g' : W → W → Option W} {b c : Bool} (h : g2R g' (some v) (val C ρ) = some (0, .bl c)) : chW g' v C ρ (some (k, .bl b)) = some (0, .bl (b && c)) := by cases b <;> simp [h]
def chV (g g' : W → W → Option W) (C : Fe) (ρ : Env) : Option W → Option W → Option W
  | some u, some v => chW g' v C ρ (g u v)
  | _, _ => none
@[simp] theorem chV_s {g g' : W → W → Option W} : chV g g' C ρ (some u) (some v) = chW g' v C ρ (g u v) := rfl
theorem r_chV {g g' : W → W → Option W} : pChain g g' A B C ρ = argR (chV g g' C ρ (val A ρ) (val B ρ)) := by
  unfold pChain chV
  rcases val A ρ with _ | u
  · rfl
  · rcases val B ρ with _ | v
    · rfl
    · dsimp only [Option.bind_some]
      unfold chW g2R argR
      rcases g u v with _ | ⟨k, d⟩
      · rfl
      · cases d <;> first | rfl | skip
        rename_i b
        cases b
        · rfl
        · dsimp only [Option.bind_some]
          rcases val C ρ with _ | z
          · rfl
          · dsimp only [Option.bind_some]
            cases g' v z <;> rfl
@[simp] theorem r_chV' {g g' : W → W → Option W} : pChain g g' A B C ρ = argR (chV g g' C ρ (val A ρ) (val B ρ)) := r_chV
@[simp] theorem v_chV {g g' : W → W → Option W} : val (pChain g g' A B C) ρ = chV g g' C ρ (val A ρ) (val B ρ) := val_arg r_chV
@[simp] theorem t_yes : bYes ρ = some true := rfl
/-! slices -/
def slR : Option W → Option (Option Int) → Option (Option Int) → Option W
  | some u, some lo, some hi => gSl u lo hi
  | _, _, _ => none
@[simp] theorem slR_s {lo hi : Option Int} : slR (some u) (some lo) (some hi) = gSl u lo hi := rfl
theorem r_slV {L H : Fo} : pSl A L H ρ = argR (slR (val A ρ) (L ρ) (H ρ)) := by
  unfold pSl slR
  rcases val A ρ with _ | u
  · rfl
  · rcases L ρ with _ | lo
    · rfl
    · rcases H ρ with _ | hi
      · rfl
      · show (gSl u lo hi).map _ = argR (gSl u lo hi)
        unfold argR
        cases gSl u lo hi <;> rfl
@[simp] theorem r_slV' {L H : Fo} : pSl A L H ρ = argR (slR (val A ρ) (L ρ) (H ρ)) := r_slV
@[simp] theorem v_slV {L H : Fo} : val (pSl A L H) ρ = slR (val A ρ) (L ρ) (H ρ) := val_arg r_slV
@[simp] theorem o_none_s : oNone ρ = some none := rfl
def oR : Option W → Option (Option Int)
  | some (_, .int i) => some (some i)
  | _ => none
@[simp] theorem oR_s {a : Int} : oR (some (k, .int a)) = some (some a) := rfl
@[simp] theorem o_some_s : oSome A ρ = oR (val A ρ) := by
  unfold oSome oR
  rcases val A ρ with _ | ⟨k, d⟩
  · rfl
  · cases d <;> rfl
@[simp] theorem sl_t {ds : List D} {lo hi : Option Int} : gSl (k, .tup ds) lo hi = some (0, .tup (cutL ds lo hi)) := rfl
@[simp] theorem sl_l {ds : List D} {lo hi : Option Int} : gSl (k, .lst ds) lo hi = if k ≤ 1 then some (1, .lst (cutL ds lo hi)) else none := (rfl)
theorem cut_take {α : Type} (xs : List α) (p : Nat) : cutL xs none (some (p : Int)) = xs.take p := by
  unfold cutL
  rw [HT.sIx_none, HT.sIx_nat]
  simp only [List.drop_zero, Nat.sub_zero]
  by_cases h : p ≤ xs.length
  · rw [Nat.min_eq_left h]
  · rw [Nat.min_eq_right (by omega), List.take_length, List.take_of_length_le (by omega)]
theorem cut_drop {α : Type} (xs : List α) (p : Nat) : cutL xs (some (p : Int)) none = xs.drop p := by
  unfold cutL
  rw [HT.sIx_none, HT.sIx_nat]
  by_cases h : p ≤ xs.length
  · rw [Nat.min_eq_left h]
    exact List.take_of_length_le (by simp)
  · rw [Nat.min_eq_right (by omega), List.drop_of_length_le (Nat.le_refl _), List.drop_of_length_le (by omega)]; simp
theorem cut_both {α : Type} (xs : List α) (p q : Nat) : cutL xs (some (p : Int)) (some (q : Int)) = (xs.take q).drop p := by
  unfold cutL
  rw [HT.sIx_nat, HT.sIx_nat, List.drop_take]
  by_cases h : p ≤ xs.length
  · rw [Nat.min_eq_left h]
    by_cases h2 : q ≤ xs.length
    · rw [Nat.min_eq_left h2]
    · have e : min q xs.length = xs.length := Nat.min_eq_right (by omega)
      rw [e, List.take_of_length_le (by simp), List.take_of_length_le (by simp; omega)]
  · have e : min p xs.length = xs.length := Nat.min_eq_right (by omega)
    have e2 : List.drop p xs = [] := List.drop_of_length_le (by omega)
    rw [e, List.drop_of_length_le (Nat.le_refl _), e2]; simp
/-! comprehensions -/
def lcO (j : Nat) : Option (List D) → Option W
  | some out => some (j + 1, .lst out)
  | none => none
@[simp] theorem lcO_s {out : List D} : lcO j (some out) = some (j + 1, .lst out) := rfl
def lcR (j : Nat) : Bool → Option (List D) → (List D → Option (List D)) → Option W
  | true, some ds, F => if ds.length ≤ 1000000 then lcO j (F ds) else none
  | _, _, _ => none
@[simp] theorem lcR_s {ds : List D} {F : List D → Option (List D)} : lcR j true (some ds) F = if ds.length ≤ 1000000 then lcO j (F ds) else none := (rfl)
theorem r_lcV {it : Fit} {vs : List Nat} : pLc j it t vs T A ρ = argR (lcR j (vs.all fun v => lvl0 ρ[v]?) (it ρ) (fun ds => compL t T A j (wipeE ρ vs) ds)) := by
  unfold pLc lcR
  cases vs.all fun v => lvl0 ρ[v]? with
  | false => rfl
  | true =>
    rw [if_pos rfl]
    rcases it ρ with _ | ds
    · rfl
    · show (if ds.length ≤ 1000000 then _ else _) = argR (if ds.length ≤ 1000000 then _ else _)
      by_cases h : ds.length ≤ 1000000
      · rw [if_pos h, if_pos h]
        show _ = argR (lcO j (compL t T A j (wipeE ρ vs) ds))
        unfold lcO argR
        cases compL t T A j (wipeE ρ vs) ds <;> rfl
      · rw [if_neg h, if_neg h]; rfl
@[simp] theorem r_lcV' {it : Fit} {vs : List Nat} : pLc j it t vs T A ρ = argR (lcR j (vs.all fun v => lvl0 ρ[v]?) (it ρ) (fun ds => compL t T A j (wipeE ρ vs) ds)) := r_lcV
@[simp] theorem v_lcV {it : Fit} {vs : List Nat} : val (pLc j it t vs T A) ρ = lcR j (vs.all fun v => lvl0 ρ[v]?) (it ρ) (fun ds => compL t T A j (wipeE ρ vs) ds) := val_arg r_lcV
@[simp] theorem lvl0_0 {d : D} : lvl0 (some (some (0, d))) = true := rfl
@[simp] theorem lvl0_n : lvl0 (some none) = true := rfl
@[simp] theorem wipe_nil : wipeE ρ [] = ρ := rfl
@[simp] theorem wipe_cons {v : Nat} {vs : List Nat} : wipeE ρ (v :: vs) = (wipeE ρ vs).set v none := rfl
def elC (j : Nat) : Option Bool → Option Arg → Option (Option D)
  | some true, some (.v k x) => if lvlOk j k x = true then some (some x) else none
  | some false, _ => some none
  | _, _ => none
@[simp] theorem elC_t {x : D} : elC 0 (some true) (some (.v k x)) = some (some x) := rfl
@[simp] theorem elC_f {a : Option Arg} : elC j (some false) a = some none := rfl
@[simp] theorem elC_b {b : Bool} {x : D} : elC 0 (some b) (some (.v k x)) = some (if b then some x else none) := by cases b <;> rfl
def elB (j : Nat) (T : Fb) (A : Fe) : Option Env → Option (Option D)
  | some ρ1 => elC j (T ρ1) (A ρ1)
  | none => none
@[simp] theorem elB_s : elB j T A (some ρ1) = elC j (T ρ1) (A ρ1) := rfl
def elemR (j : Nat) (t : Tg) (T : Fb) (A : Fe) (ρ : Env) (d : D) : Option (Option D) := elB j T A (bindT t (0, d) ρ)
@[simp] theorem elemR_s : elemR j t T A ρ d = elB j T A (bindT t (0, d) ρ) := rfl
theorem comp_of {α : Type} {inj : α → D} {g : α → Option D} : ∀ {xs : List α}, (∀ a ∈ xs, elemR j t T A ρ (inj a) = some (g a)) → compL t T A j ρ (xs.map inj) = some (xs.filterMap g)
  | [], _ => rfl
  | a :: xs, h => by
    have ih := comp_of (g := g) (xs := xs) fun b hb => h b (List.mem_cons_of_mem _ hb)
    have h1 := h a List.mem_cons_self
    rw [List.map_cons, List.filterMap_cons]
    show (bindT t (0, inj a) ρ).bind _ = _
    unfold elemR at h1
    rcases hb : bindT t (0, inj a) ρ with _ | ρ1
    · rw [hb] at h1; cases h1
    · rw [hb] at h1
      rw [elB_s] at h1
      dsimp only [Option.bind_some]
      rcases hT : T ρ1 with _ | b
      · rw [hT] at h1; cases A ρ1 <;> cases h1
      · rw [hT] at h1
        cases b with
        | false =>
          rw [elC_f] at h1
          rw [← Option.some.inj h1]
          simpa using ih
        | true =>
          dsimp only [Option.bind_some]
          rw [if_pos rfl]
          rcases hA : A ρ1 with _ | a1
          · rw [hA] at h1; cases h1
          · rw [hA] at h1
            cases a1 with
            | r x => cases h1
            | v k x =>
              unfold elC at h1
              dsimp only [Option.bind_some] at h1 ⊢
              split at h1
              · rename_i hl
                rw [if_pos hl, ih, ← Option.some.inj h1]; rfl
              · cases h1
theorem comp_map {α : Type} {inj : α → D} (X : α → D) {xs : List α} (h : ∀ a ∈ xs, elemR j t T A ρ (inj a) = some (some (X a))) : compL t T A j ρ (xs.map inj) = some (xs.map X) := by
  rw [comp_of (g := fun a => some (X a)) h]
  clear h
  congr 1
  induction xs with
  | nil => rfl
  | cons a xs ih => simp [ih]
theorem comp_fm {α : Type} {inj : α → D} (p : α → Bool) (X : α → D) {xs : List α} (h : ∀ a ∈ xs, elemR j t T A ρ (inj a) = some (if p a then some (X a) else none)) : compL t T A j ρ (xs.map inj) = some ((xs.filter p).map X) := by
  rw [comp_of (g := fun a => if p a then some (X a) else none) h]
  congr 1
  clear h
  induction xs with
  | nil => rfl
  | cons a xs ih =>
    rw [List.filterMap_cons]
    cases hp : p a with
    | true => rw [List.filter_cons_of_pos hp]; simp [ih]
    | false => rw [List.filter_cons_of_neg (by rw [hp]; exact Bool.false_ne_true)]; simp [ih]
/-! what a walk goes over -/
theorem rngD_map {lo : Int} {n : Nat} : rngD lo n = (List.range n).map fun i : Nat => D.int (lo + (i : Int)) := rfl
def IN (n : Nat) : D := .int (n : Int)
@[simp] theorem IN_d {n : Nat} : IN n = .int (n : Int) := rfl
@[simp] theorem rngD_0 {n : Nat} : rngD 0 n = (List.range n).map IN := by unfold rngD; simp [IN]
@[simp high] theorem rng_nat {m : Nat} : rngR (some (k, .int (m : Int))) = if m ≤ 1000000000 then some (rngD 0 m) else none := by
  rw [rng_s]
  by_cases h : m ≤ 1000000000
  · rw [if_pos h, if_pos (by omega)]; simp
  · rw [if_neg h, if_neg (by omega)]
def rng2R : Option W → Option W → Option (List D)
  | some (_, .int m), some (_, .int n) => if (-1000000000 ≤ m ∧ m ≤ 1000000000) ∧ -1000000000 ≤ n ∧ n ≤ 1000000000 then some (rngD m (n - m).toNat) else none
  | _, _ => none
@[simp] theorem rng2_s {m n : Int} : rng2R (some (k, .int m)) (some (l, .int n)) = if (-1000000000 ≤ m ∧ m ≤ 1000000000) ∧ -1000000000 ≤ n ∧ n ≤ 1000000000 then some (rngD m (n - m).toNat) else none := (rfl)
@[simp] theorem i_rg2 : iRange2 A B ρ = rng2R (val A ρ) (val B ρ) := by
  unfold iRange2 rng2R
  rcases val A ρ with _ | ⟨k, d⟩
  · rfl
  · rcases val B ρ with _ | ⟨l, c⟩
    · cases d <;> rfl
    · cases d <;> cases c <;> rfl
theorem enum_map {α : Type} {inj : α → D} : ∀ (xs : List α) (n : Nat), enumF n (xs.map inj) = (xs.zipIdx n).map fun p => D.tup [.int (p.2 : Nat), inj p.1]
  | [], _ => rfl
  | a :: xs, n => by
    rw [List.map_cons, List.zipIdx_cons, List.map_cons, ← enum_map xs (n + 1)]
    rfl
theorem zip_map {α β : Type} {f : α → D} {g : β → D} : ∀ (xs : List α) (ys : List β), zipF (xs.map f) (ys.map g) = (xs.zip ys).map fun p => D.tup [f p.1, g p.2]
  | [], _ => rfl
  | a :: xs, [] => rfl
  | a :: xs, b :: ys => by
    rw [List.map_cons, List.map_cons, List.zip_cons_cons, List.map_cons, ← zip_map xs ys]
    rfl
/-! targets -/
@[simp] theorem bindT_n : bindT (.nm i) w ρ = if i < ρ.length then some (ρ.set i (some w)) else none := (rfl)
@[simp] theorem bindT_t {ts : List Tg} {ds : List D} : bindT (.tp ts) (k, .tup ds) ρ = if ds.length = ts.length then bindTs ts ds ρ else none := by
  unfold bindT; rfl
def bindO (ts : List Tg) (ds : List D) : Option Env → Option Env
  | some ρ => bindTs ts ds ρ
  | none => none
@[simp] theorem bindO_s {ts : List Tg} {ds : List D} : bindO ts ds (some ρ) = bindTs ts ds ρ := rfl
@[simp] theorem bindTs_n {ds : List D} : bindTs [] ds ρ = some ρ := by unfold bindTs; rfl
@[simp] theorem bindTs_c {ts : List Tg} {ds : List D} : bindTs (t :: ts) (d :: ds) ρ = bindO ts ds (bindT t (0, d) ρ) := by
  show (bindT t (0, d) ρ).bind _ = _
  cases bindT t (0, d) ρ <;> rfl
def bindPO (f : Fs) (Q : Fl → Env → Prop) : Option Env → Prop
  | some ρ1 => Wp (f ρ1) Q
  | none => False
@[simp] theorem bindPO_s : bindPO f Q (some ρ1) = Wp (f ρ1) Q := rfl
theorem bindP_tp {ts : List Tg} : bindP (.tp ts) f d ρ Q = bindPO f Q (bindT (.tp ts) (0, d) ρ) := by unfold bindP; rfl
def asgT (t : Tg) (Q : Fl → Env → Prop) : Option W → Env → Prop
  | some w, ρ => bindPO bNil Q (bindT t (0, w.2) ρ)
  | none, _ => False
@[simp] theorem asgT_s : asgT t Q (some w) ρ = bindPO bNil Q (bindT t (0, w.2) ρ) := rfl
@[simp] theorem wp_asgT : Wp (sAsgT t A ρ) Q = asgT t Q (val A ρ) ρ := by
  unfold sAsgT asgT
  rcases val A ρ with _ | w
  · simp
  · dsimp only [Option.bind_some]
    cases bindT t (0, w.2) ρ <;> simp [bindPO]
/-! statements -/
@[simp] theorem wp_par {is : List Nat} {B : Fa} : Wp (sPar is B ρ) Q = Wp (parR is (B ρ) ρ) Q := by rw [r_par]
@[simp] theorem par_s {is : List Nat} {as : List Arg} : parR is (some as) ρ = (putAll is as ρ).map fun ρ' => (.nx, ρ') := by
  show (match putAll is as ρ with | some ρ' => some (Fl.nx, ρ') | none => none) = _
  cases putAll is as ρ <;> rfl
@[simp] theorem putAll_n : putAll [] [] ρ = some ρ := rfl
@[simp] theorem putAll_c {is : List Nat} {as : List Arg} : putAll (i :: is) (.v k d :: as) ρ = if i < ρ.length then putAll is as (ρ.set i (some (k, d))) else none := by
  show (putArg i (.v k d) ρ).bind _ = _
  unfold putArg
  by_cases h : i < ρ.length
  · simp [h]
  · simp [h]
def extR (i : Nat) : Option W → Option Arg → Env → Option (Fl × Env)
  | some (1, .lst ds), some (.v _ (.lst cs)), ρ => if ds.length + cs.length ≤ 1000000 then some (.nx, ρ.set i (some (1, .lst (ds ++ cs)))) else none
  | _, _, _ => none
@[simp] theorem ext_s {ds cs : List D} : extR i (some (1, .lst ds)) (some (.v k (.lst cs))) ρ = if ds.length + cs.length ≤ 1000000 then some (.nx, ρ.set i (some (1, .lst (ds ++ cs)))) else none := (rfl)
@[simp] theorem r_ext : sExt i A ρ = extR i (ρ[i]?.join) (A ρ) ρ := by
  unfold sExt
  split
  · rename_i ds h
    rw [h]
    rcases A ρ with _ | a
    · rfl
    · cases a with
      | r x => rfl
      | v k d => cases d <;> rfl
  · rename_i h
    unfold extR
    split
    · rename_i ds _ cs h1 h2
      exact absurd h1 (h ds)
    · rfl
theorem last_q (ds : List D) (d : D) : (ds ++ [d])[(ds ++ [d]).length - 1]? = some d := by simp
def popLP (i : Nat) (t : Tg) (Q : Fl → Env → Prop) (ds : List D) (ρ : Env) : Option D → Prop
  | some d => bindPO bNil Q (bindT t (0, d) (ρ.set i (some (1, .lst ds.dropLast))))
  | none => False
def popTP (i : Nat) (t : Tg) (Q : Fl → Env → Prop) : Option W → Env → Prop
  | some (1, .lst ds), ρ => popLP i t Q ds ρ ds[ds.length - 1]?
  | _, _ => False
theorem popTP_1 {ds : List D} : popTP i t Q (some (1, .lst ds)) ρ = popLP i t Q ds ρ ds[ds.length - 1]? := rfl
@[simp] theorem popTP_s {ds : List D} : popTP i t Q (some (1, .lst (ds ++ [d]))) ρ = bindPO bNil Q (bindT t (0, d) (ρ.set i (some (1, .lst ds)))) := by
  rw [popTP_1, last_q]
  unfold popLP
  rw [List.dropLast_concat]
@[simp] theorem wp_popT : Wp (sPopT i t ρ) Q = popTP i t Q (ρ[i]?.join) ρ := by
  unfold sPopT
  split
  · rename_i ds h
    rw [h, popTP_1]
    cases ds[ds.length - 1]? with
    | none => simp [popLP]
    | some d =>
      dsimp only [Option.bind_some]
      show _ = bindPO bNil Q (bindT t (0, d) (ρ.set i (some (1, .lst ds.dropLast))))
      cases bindT t (0, d) (ρ.set i (some (1, .lst ds.dropLast))) <;> simp [bindPO]
  · rename_i h
    unfold popTP
    split
    · exact absurd ‹_› (h _)
    · simp
def popL (i j : Nat) (Q : Fl → Env → Prop) (ds : List D) (ρ : Env) : Option D → Prop
  | some d => j < ρ.length ∧ Q .nx ((ρ.set i (some (1, .lst ds.dropLast))).set j (some (0, d)))
  | none => False
def popP (i j : Nat) (Q : Fl → Env → Prop) : Option W → Env → Prop
  | some (1, .lst ds), ρ => popL i j Q ds ρ ds[ds.length - 1]?
  | _, _ => False
theorem popP_1 {ds : List D} : popP i j Q (some (1, .lst ds)) ρ = popL i j Q ds ρ ds[ds.length - 1]? := rfl
@[simp] theorem popP_s {ds : List D} : popP i j Q (some (1, .lst (ds ++ [d]))) ρ = (j < ρ.length ∧ Q .nx ((ρ.set i (some (1, .lst ds))).set j (some (0, d)))) := by
  rw [popP_1, last_q]
  unfold popL
  rw [List.dropLast_concat]
@[simp] theorem wp_pop : Wp (sPop i j ρ) Q = popP i j Q (ρ[i]?.join) ρ := by
  unfold sPop
  split
  · rename_i ds h
    rw [h, popP_1]
    cases ds[ds.length - 1]? with
    | none => simp [popL]
    | some d =>
      dsimp only [Option.bind_some]
      unfold popL
      by_cases hj : j < ρ.length
      · simp [hj]
      · simp [hj]
  · rename_i h
    unfold popP
    split
    · exact absurd ‹_› (h _)
    · simp
theorem wp_popIx {m : Nat} {ds : List D} (h : ρ[i]?.join = some (1, .lst (ds ++ [d]))) (h1 : j < ρ.length) (h2 : i ≠ m) (h3 : ρ[m]?.join = some u) (h4 : gIx u (0, d) = some w) (q : Q .nx ((ρ.set i (some (1, .lst ds))).set j (some w))) : Wp (sPopIx i j m ρ) Q := by
  unfold sPopIx
  rw [h]
  show Wp (((ds ++ [d])[(ds ++ [d]).length - 1]?).bind _) Q
  rw [last_q]
  dsimp only [Option.bind_some]
  rw [if_pos h1, if_neg h2, h3]
  dsimp only [Option.bind_some]
  rw [h4, List.dropLast_concat]
  simp only [Option.map_some, wp_some]
  exact q
def augIxP (i : Nat) (g : Int → Int → Int) (Q : Fl → Env → Prop) : Option W → Option W → Option W → Env → Prop
  | some (1, .lst ds), some (_, .int n), some (_, .int m), ρ => ∃ o ds', atI ds n = some (.int o) ∧ setAt ds n (.int (g o m)) = some ds' ∧ Q .nx (ρ.set i (some (1, .lst ds')))
  | _, _, _, _ => False
@[simp] theorem augIxP_s {g : Int → Int → Int} {ds : List D} {n m : Int} : augIxP i g Q (some (1, .lst ds)) (some (k, .int n)) (some (l, .int m)) ρ = ∃ o ds', atI ds n = some (.int o) ∧ setAt ds n (.int (g o m)) = some ds' ∧ Q .nx (ρ.set i (some (1, .lst ds'))) := rfl
theorem wp_augIx {g : Int → Int → Int} {ds ds' : List D} {n m o : Int} (h1 : ρ[i]?.join = some (1, .lst ds)) (h2 : val B ρ = some (k, .int n)) (h3 : val A ρ = some (l, .int m)) (q1 : atI ds n = some (.int o)) (q2 : setAt ds n (.int (g o m)) = some ds')
    (q3 : Q .nx (ρ.set i (some (1, .lst ds')))) : Wp (sAugIx i g B A ρ) Q := by
  unfold sAugIx
  rw [h1]
  dsimp only [Option.bind_some]
  rw [h2]
  dsimp only [Option.bind_some]
  rw [h3]
  dsimp only [Option.bind_some]
  show Wp (match atI ds n, D.int m with
      | some (.int o), .int m => (setAt ds n (.int (g o m))).map fun ds' => (Fl.nx, ρ.set i (some (1, .lst ds')))
      | _, _ => none) Q
  rw [q1]
  dsimp only
  rw [q2]
  simp only [Option.map_some, wp_some]
  exact q3
/-! tables: (range n).map f -/
theorem wp_tab (m : Nat) (F : Nat → D) (I : Nat → Env → Prop) {ds : List D} (hds : ds = (List.range m).map F) (h0 : I 0 ρ) (hs : ∀ (a : Nat) (ρ : Env), a < m → I a ρ → bindP t f (F a) ρ (turnQ (I (a + 1)) Q)) (hQ : ∀ ρ', I m ρ' → Q .nx ρ') : Wp (loopF t f ds ρ) Q := by
  refine wp_for (inj := F) (List.range m) (fun pre => I pre.length) hds h0 (fun pre a post ρ e h => ?_) (fun ρ' h => hQ ρ' (by simpa using h))
  have hp : pre.length = a := by
    have h1 : (List.range m)[pre.length]? = some a := by rw [e]; simp
    obtain ⟨h3, h4⟩ := List.getElem?_eq_some_iff.mp h1
    simpa using h4
  have ha : a < m := by
    have : a ∈ List.range m := by rw [e]; simp
    simpa using this
  rw [List.length_append, hp]
  exact hs a ρ ha (by rw [← hp]; exact h)
theorem enum_tab {n : Nat} {F : Nat → D} : enumF 0 ((List.range n).map F) = (List.range n).map fun i => D.tup [.int (i : Nat), F i] := by
  have key : ∀ (m s : Nat), enumF s ((List.range' s m).map F) = (List.range' s m).map fun i => D.tup [.int (i : Nat), F i] := by
    intro m
    induction m with
    | zero => intro s; rfl
    | succ m ih =>
      intro s
      rw [List.range'_succ, List.map_cons, List.map_cons]
      show _ :: enumF (s + 1) _ = _
      rw [ih (s + 1)]
  rw [List.range_eq_range']
  exact key n 0
theorem zip_same {α : Type} {F G : α → D} : ∀ (xs : List α), zipF (xs.map F) (xs.map G) = xs.map fun a => D.tup [F a, G a]
  | [] => rfl
  | a :: xs => by
    rw [List.map_cons, List.map_cons, List.map_cons, ← zip_same xs]
    rfl
/-! numbers in lists -/
theorem all_flat (xs : List Nat) : ((xs.map IN).all flatD) = true := List.all_eq_true.mpr fun d hd => by obtain ⟨c, _, rfl⟩ := List.mem_map.mp hd; rfl
theorem inF_IN (n : Nat) (xs : List Nat) : inF (.int (n : Int)) (xs.map IN) = decide (n ∈ xs) := by
  unfold inF
  rw [List.any_map]
  rw [Bool.eq_iff_iff]
  simp only [List.any_eq_true, decide_eq_true_eq, Function.comp]
  constructor
  · rintro ⟨x, hx, h⟩
    have h' : (((x : Int)) == ((n : Int))) = true := h
    have h2 : (x : Int) = (n : Int) := by simpa using h'
    have : x = n := by omega
    exact this ▸ hx
  · intro h
    exact ⟨n, h, by show (((n : Int)) == ((n : Int))) = true; simp⟩
@[simp] theorem in_IN {neg : Bool} {n : Nat} {xs : List Nat} : gIn neg (k, .int (n : Int)) (l, .lst (xs.map IN)) = if l ≤ 1 then some (0, .bl (neg != decide (n ∈ xs))) else none := by
  show (if l ≤ 1 ∧ flatD (.int (n : Int)) = true ∧ (xs.map IN).all flatD = true then _ else _) = _
  rw [all_flat, inF_IN]
  by_cases h : l ≤ 1 <;> simp [h, flatD]
@[simp] theorem in_INt {neg : Bool} {n : Nat} {xs : List Nat} : gIn neg (k, .int (n : Int)) (l, .tup (xs.map IN)) = some (0, .bl (neg != decide (n ∈ xs))) := by
  show (if flatD (.int (n : Int)) = true ∧ (xs.map IN).all flatD = true then _ else _) = _
  rw [all_flat, inF_IN]
  simp [flatD]
@[simp] theorem in_k0 {neg : Bool} {n : Int} : gIn neg (k, .int n) (l, .ktp []) = some (0, .bl neg) := by cases neg <;> rfl
theorem clean_IN (xs : List Nat) : cleanD 1 (.lst (xs.map IN)) = true := List.all_eq_true.mpr fun d hd => by obtain ⟨c, _, rfl⟩ := List.mem_map.mp hd; rfl
@[simp] theorem wp_aug {gg : W → W → Option W} : Wp (augR i gg (some u) (some v) ρ) Q = (match gg u v with | some w => i < ρ.length ∧ Q .nx (ρ.set i (some w)) | none => False) := by
  show Wp (match gg u v with | some w => if i < ρ.length then some (Fl.nx, ρ.set i (some w)) else none | none => none) Q = _
  cases gg u v with
  | none => simp
  | some w => simp
end
end Pv
set_option Elab.async false
set_option linter.all false
set_option maxRecDepth 100000
/-! R3: dicts, pairs, equal data -/
namespace Pv
open PySem L2
section
variable {ρ ρ1 : Env} {A B C : Fe} {T U : Fb} {f g : Fs} {i j n k l : Nat} {d c : D} {w u v : W} {t : Tg} {Q : Fl → Env → Prop} {kvs : List (List Key × D)}
def dcO : Option (List (List Key × D)) → Option W
  | some r => some (1, .dct false r)
  | none => none
@[simp] theorem dcO_s : dcO (some kvs) = some (1, .dct false kvs) := rfl
def dcR : Bool → Option (List D) → (List D → Option (List (List Key × D))) → Option W
  | true, some ds, F => if ds.length ≤ 1000000 then dcO (F ds) else none
  | _, _, _ => none
@[simp] theorem dcR_s {ds : List D} {F : List D → Option (List (List Key × D))} : dcR true (some ds) F = if ds.length ≤ 1000000 then dcO (F ds) else none := (rfl)
theorem r_dcV {it : Fit} {vs : List Nat} : pDc it t vs T A B ρ = argR (dcR (vs.all fun v => lvl0 ρ[v]?) (it ρ) (fun ds => compD t T A B (wipeE ρ vs) ds [])) := by
  unfold pDc dcR
  cases vs.all fun v => lvl0 ρ[v]? with
  | false => rfl
  | true =>
    rw [if_pos rfl]
    rcases it ρ with _ | ds
    · rfl
    · show (if ds.length ≤ 1000000 then _ else _) = argR (if ds.length ≤ 1000000 then _ else _)
      by_cases h : ds.length ≤ 1000000
      · rw [if_pos h, if_pos h]
        show _ = argR (dcO (compD t T A B (wipeE ρ vs) ds []))
        unfold dcO argR
        cases compD t T A B (wipeE ρ vs) ds [] <;> rfl
      · rw [if_neg h, if_neg h]; rfl
@[simp] theorem r_dcV' {it : Fit} {vs : List Nat} : pDc it t vs T A B ρ = argR (dcR (vs.all fun v => lvl0 ρ[v]?) (it ρ) (fun ds => compD t T A B (wipeE ρ vs) ds [])) := r_dcV
@[simp] theorem v_dcV {it : Fit} {vs : List Nat} : val (pDc it t vs T A B) ρ = dcR (vs.all fun v => lvl0 ρ[v]?) (it ρ) (fun ds => compD t T A B (wipeE ρ vs) ds []) := val_arg r_dcV
def elD : Option Arg → Option Arg → Option (Key × D)
  | some (.v _ u), some (.v _ x) => (keyK u).map fun κ => (κ, x)
  | _, _ => none
@[simp] theorem elD_i {x : D} {m : Int} : elD (some (.v k (.int m))) (some (.v l x)) = some (.inl m, x) := rfl
@[simp] theorem elD_s {x : D} {m : Str} : elD (some (.v k (.str m))) (some (.v l x)) = some (.inr m, x) := rfl
def elDB (T : Fb) (A B : Fe) : Option Env → Option (Option (Key × D))
  | some ρ1 => (match T ρ1 with | some true => (elD (A ρ1) (B ρ1)).map some | some false => some none | none => none)
  | none => none
theorem elDB_s : elDB T A B (some ρ1) = (match T ρ1 with | some true => (elD (A ρ1) (B ρ1)).map some | some false => some none | none => none) := rfl
theorem valD_app {k : List Key} {x : D} {k' : List Key} : ∀ {kvs : List (List Key × D)}, valD (kvs ++ [(k', x)]) k = (valD kvs k).orElse fun _ => if k' = k then some x else none
  | [] => by unfold valD; by_cases h : k' = k <;> simp [h, valD]
  | p :: r => by
    rw [List.cons_append]
    unfold valD
    by_cases h : p.1 = k
    · rw [if_pos h, if_pos h]; rfl
    · rw [if_neg h, if_neg h, valD_app]
/-- a dict comprehension whose keys are all different -/
theorem compD_map {α : Type} {inj : α → D} (κ : α → Key) (X : α → D) : ∀ {xs : List α} {acc : List (List Key × D)}, (xs.map κ).Nodup → (∀ a ∈ xs, valD acc [κ a] = none) → (∀ a ∈ xs, elDB T A B (bindT t (0, inj a) ρ) = some (some (κ a, X a))) → compD t T A B ρ (xs.map inj) acc = some (acc ++ xs.map fun a => ([κ a], X a))
  | [], acc, _, _, _ => by simp [compD]
  | a :: xs, acc, nd, hv, h => by
    have h1 := h a List.mem_cons_self
    rw [List.map_cons] at nd
    have nd' := List.nodup_cons.mp nd
    rw [List.map_cons]
    show (bindT t (0, inj a) ρ).bind _ = _
    rcases hb : bindT t (0, inj a) ρ with _ | ρ1
    · rw [hb] at h1; cases h1
    · rw [hb, elDB_s] at h1
      dsimp only [Option.bind_some]
      rcases hT : T ρ1 with _ | b
      · rw [hT] at h1; cases h1
      · rw [hT] at h1
        cases b with
        | false => cases h1
        | true =>
          dsimp only [Option.bind_some] at h1 ⊢
          rw [if_pos rfl]
          rcases hA : A ρ1 with _ | a1
          · rw [hA] at h1; cases h1
          · rw [hA] at h1
            cases a1 with
            | r x => cases h1
            | v k u =>
              rcases hB : B ρ1 with _ | b1
              · rw [hB] at h1; cases h1
              · rw [hB] at h1
                cases b1 with
                | r x => cases h1
                | v k2 x =>
                  replace h1 : ((keyK u).map fun κ => (κ, x)).map some = some (some (κ a, X a)) := h1
                  rcases hk : keyK u with _ | κu
                  · rw [hk] at h1; cases h1
                  · rw [hk] at h1
                    cases h1
                    dsimp only [Option.bind_some]
                    rw [hk]
                    dsimp only [Option.bind_some]
                    have hp : putD acc [κ a] (X a) = acc ++ [([κ a], X a)] := by
                      unfold putD
                      rw [hv a List.mem_cons_self]; rfl
                    rw [hp, compD_map κ X nd'.2 (fun b hb => ?_) (fun b hb => h b (List.mem_cons_of_mem _ hb))]
                    · simp
                    · rw [valD_app, hv b (List.mem_cons_of_mem _ hb)]
                      have : ¬ [κ a] = [κ b] := fun z => nd'.1 (by rw [(List.cons.inj z).1]; exact List.mem_map_of_mem hb)
                      simp [this]
@[simp] theorem dget_i {m : Int} : gDGet (k, .dct false kvs) (l, .int m) = if k ≤ 1 then (valD kvs [.inl m]).map fun c => (0, c) else none := (rfl)
@[simp] theorem dget_s {m : Str} : gDGet (k, .dct false kvs) (l, .str m) = if k ≤ 1 then (valD kvs [.inr m]).map fun c => (0, c) else none := (rfl)
@[simp] theorem dget1_i {m : Int} : gDGet1 (k, .dct false kvs) (l, .int m) = if k ≤ 1 then some (0, (valD kvs [.inl m]).getD .non) else none := (rfl)
@[simp] theorem din_i {neg : Bool} {m : Int} : gDIn neg (l, .int m) (k, .dct false kvs) = if k ≤ 1 then some (0, .bl (neg != (valD kvs [.inl m]).isSome)) else none := (rfl)
@[simp] theorem din_s {neg : Bool} {m : Str} : gDIn neg (l, .str m) (k, .dct false kvs) = if k ≤ 1 then some (0, .bl (neg != (valD kvs [.inr m]).isSome)) else none := (rfl)
@[simp] theorem put_i {m : Int} : putR i (some (.v j d)) (some (1, .dct false kvs)) (some (l, .int m)) ρ = if kvs.length < big then some (.nx, ρ.set i (some (1, .dct false (putD kvs [.inl m] d)))) else none := (rfl)
@[simp] theorem put_st {m : Str} : putR i (some (.v j d)) (some (1, .dct false kvs)) (some (l, .str m)) ρ = if kvs.length < big then some (.nx, ρ.set i (some (1, .dct false (putD kvs [.inr m] d)))) else none := (rfl)
@[simp] theorem dnew_s {b : Bool} : pDNew k b ρ = some (.v (k + 1) (.dct b [])) := rfl
/-! list(zip(a, b)) -/
def lzQ : Option (Bool × List D) → Option (Bool × List D) → Option W
  | some p, some q => if min p.2.length q.2.length ≤ 1000000 then some (1, .lst (zipF p.2 q.2)) else none
  | _, _ => none
@[simp] theorem lzQ_s {p q : Bool × List D} : lzQ (some p) (some q) = if min p.2.length q.2.length ≤ 1000000 then some (1, .lst (zipF p.2 q.2)) else none := (rfl)
def lzR : Option Arg → Option Arg → Option W
  | some (.v _ d), some (.v _ c) => lzQ (seqD d) (seqD c)
  | _, _ => none
@[simp] theorem lzR_s : lzR (some (.v j d)) (some (.v k c)) = lzQ (seqD d) (seqD c) := rfl
theorem r_lz : pLstZip A B ρ = argR (lzR (A ρ) (B ρ)) := by
  unfold pLstZip
  rw [a_cn, a_cn, a_nl]
  unfold cR
  rcases A ρ with _ | a
  · rfl
  · rcases B ρ with _ | b
    · cases a <;> rfl
    · cases a with
      | r x => cases b <;> rfl
      | v k d =>
        cases b with
        | r y => rfl
        | v j c =>
          show ((seqD d).bind fun p => (seqD c).bind fun q => if min p.2.length q.2.length ≤ 1000000 then some (Arg.v 1 (.lst (zipF p.2 q.2))) else none) = argR (lzQ (seqD d) (seqD c))
          cases seqD d with
          | none => rfl
          | some p =>
            cases seqD c with
            | none => rfl
            | some q =>
              rw [lzQ_s]
              dsimp only [Option.bind_some]
              by_cases h : min p.2.length q.2.length ≤ 1000000
              · rw [if_pos h, if_pos h]; rfl
              · rw [if_neg h, if_neg h]; rfl
@[simp] theorem r_lz' : pLstZip A B ρ = argR (lzR (A ρ) (B ρ)) := r_lz
@[simp] theorem v_lz : val (pLstZip A B) ρ = lzR (A ρ) (B ρ) := val_arg r_lz
end
/-! equal data -/
mutual
def layD : Nat → D → Bool
  | _, .non => true
  | _, .bl _ => true
  | _, .int _ => true
  | _, .str s => PyData.strOk s
  | n + 1, .tup ds => layDs n ds
  | _, _ => false
def layDs : Nat → List D → Bool
  | _, [] => true
  | n, d :: ds => layD n d && layDs n ds
end
theorem layDs_all {n : Nat} {ds : List D} (h : ∀ d ∈ ds, layD n d = true) : layDs n ds = true := by
  induction ds with
  | nil => cases n <;> rfl
  | cons d ds ih =>
    have : (layD n d && layDs n ds) = true := by rw [h d List.mem_cons_self, ih fun e he => h e (List.mem_cons_of_mem _ he)]; rfl
    cases n <;> exact this
mutual
theorem layD_py : ∀ (n : Nat) (d : D), layD n d = true → ∃ p, toPy d = some p ∧ p.canLay0 = true ∧ p.depth ≤ n ∧ PyData.eqv p p = true
  | n, .non, _ => ⟨.none, rfl, rfl, by simp [PyData.depth], by simp [PyData.eqv]⟩
  | n, .bl b, _ => ⟨.bool b, rfl, rfl, by simp [PyData.depth], by simp [PyData.eqv]⟩
  | n, .int b, _ => ⟨.int b, rfl, rfl, by simp [PyData.depth], by simp [PyData.eqv]⟩
  | n, .str s, h => ⟨.str s, rfl, by cases n <;> exact h, by simp [PyData.depth], by simp [PyData.eqv]⟩
  | n + 1, .tup ds, h => by
    obtain ⟨ps, h1, h2, h3, h4⟩ := layDs_py n ds h
    refine ⟨.tuple ps, by show (toPys ds).map _ = _; rw [h1]; rfl, h2, ?_, ?_⟩
    · show PyData.depthAll ps + 1 ≤ n + 1
      omega
    · simp [PyData.eqv, h4]
  | 0, .tup _, h => by cases h
  | n, .lst _, h => by cases n <;> cases h
  | n, .dct _ _, h => by cases n <;> cases h
  | n, .scr _, h => by cases n <;> cases h
  | n, .ktp _, h => by cases n <;> cases h
theorem layDs_py : ∀ (n : Nat) (ds : List D), layDs n ds = true → ∃ ps, toPys ds = some ps ∧ PyData.canLayAll0 ps = true ∧ PyData.depthAll ps ≤ n ∧ PyData.eqvAll ps ps = true
  | n, [], _ => ⟨[], rfl, rfl, by simp [PyData.depthAll], by simp [PyData.eqvAll]⟩
  | n, d :: ds, h => by
    have h' : (layD n d && layDs n ds) = true := by cases n <;> exact h
    rw [Bool.and_eq_true] at h'
    obtain ⟨p, h1, h2, h3, h4⟩ := layD_py n d h'.1
    obtain ⟨ps, q1, q2, q3, q4⟩ := layDs_py n ds h'.2
    refine ⟨p :: ps, by show (toPy d).bind _ = _; rw [h1]; show (toPys ds).map _ = _; rw [q1]; rfl, ?_, ?_, ?_⟩
    · show (p.canLay0 && PyData.canLayAll0 ps) = true
      rw [h2, q2]; rfl
    · show max p.depth (PyData.depthAll ps) ≤ n
      omega
    · simp [PyData.eqvAll, h4, q4]
end
theorem eq_tup {k l : Nat} {ds : List D} (h : layD 64 (.tup ds) = true) : gEq (k, .tup ds) (l, .tup ds) = some (0, .bl true) ∧ gNe (k, .tup ds) (l, .tup ds) = some (0, .bl false) := by
  obtain ⟨p, h1, h2, h3, h4⟩ := layD_py 64 _ h
  have hs : SeqAt.shaped p = true := by
    unfold SeqAt.shaped
    rw [h2, decide_eq_true h3]; rfl
  have e : gEqD (.tup ds) (.tup ds) = some true := by
    unfold gEqD
    show (toPy (.tup ds)).bind _ = _
    rw [h1]
    show (if _ then _ else _) = _
    rw [if_pos ⟨hs, hs⟩, h4]
  have o1 : eqOk (k, .tup ds) = true := by simp [eqOk]
  have o2 : eqOk (l, .tup ds) = true := by simp [eqOk]
  constructor
  · unfold gEq; rw [o1, o2]; show Option.map _ (gEqD (.tup ds) (.tup ds)) = _; rw [e]; rfl
  · unfold gNe; rw [o1, o2]; show Option.map _ (gEqD (.tup ds) (.tup ds)) = _; rw [e]; rfl
end Pv
set_option Elab.async false
set_option linter.all false
set_option maxRecDepth 100000
/-! R4: x[i] = v, max(.., default), items -/
namespace Pv
open PySem L2
section
variable {ρ ρ1 : Env} {A B C : Fe} {T U : Fb} {f g : Fs} {i j n k l : Nat} {d c : D} {w u v : W} {t : Tg} {Q : Fl → Env → Prop}
def setP (i : Nat) (Q : Fl → Env → Prop) : Option Arg → Option W → Option W → Env → Prop
  | some (.v _ d), some (1, .lst ds), some (_, .int n), ρ => ∃ ds', setAt ds n d = some ds' ∧ Q .nx (ρ.set i (some (1, .lst ds')))
  | _, _, _, _ => False
@[simp] theorem setP_s {ds : List D} {m : Int} : setP i Q (some (.v j d)) (some (1, .lst ds)) (some (k, .int m)) ρ = ∃ ds', setAt ds m d = some ds' ∧ Q .nx (ρ.set i (some (1, .lst ds'))) := rfl
theorem wp_set {ds : List D} {m : Int} (h1 : A ρ = some (.v j d)) (h2 : ρ[i]?.join = some (1, .lst ds)) (h3 : val B ρ = some (k, .int m)) {ds' : List D} (h4 : setAt ds m d = some ds') (q : Q .nx (ρ.set i (some (1, .lst ds')))) : Wp (sSet i B A ρ) Q := by
  rw [r_set h1 h2 h3 h4, wp_some]; exact q
theorem setAt_n {α : Type} {xs : List α} {n : Nat} {v : α} (h : n < xs.length) : setAt xs (n : Int) v = some (xs.set n v) := by
  unfold setAt ixN
  rw [if_pos (by omega), if_pos (by omega)]; simp
@[simp] theorem lstOf_t {ds : List D} : gLstOf (k, .tup ds) = some (1, .lst ds) := rfl
@[simp] theorem lstOf_l {ds : List D} : gLstOf (k, .lst ds) = if k ≤ 1 then some (1, .lst ds) else none := by
  show (itemsD (k, .lst ds)).map _ = _
  unfold itemsD
  by_cases h : k ≤ 1 <;> simp [h]
theorem intsD_map {α : Type} (F : α → Int) : ∀ xs : List α, intsD (xs.map fun a => D.int (F a)) = some (xs.map F)
  | [] => rfl
  | x :: xs => by
    show (intsD (xs.map fun a => D.int (F a))).map _ = _
    rw [intsD_map F xs]; rfl
theorem sum_ints {α : Type} (F : α → Int) (xs : List α) : gSum (1, .lst (xs.map fun a => D.int (F a))) = some (0, .int (xs.map F).sum) := by
  unfold gSum
  show (itemsD (1, .lst _)).bind _ = _
  have : itemsD (1, .lst (xs.map fun a => D.int (F a))) = some (xs.map fun a => D.int (F a)) := by unfold itemsD; simp
  rw [this, Option.bind_some, intsD_map]; rfl
theorem maxDef_ints {α : Type} (F : α → Int) (xs : List α) (d : Int) : gMaxDef (1, .lst (xs.map fun a => D.int (F a))) (k, .int d) = some (0, .int (maxOr d (xs.map F))) := by
  unfold gMaxDef
  rw [ld_l, if_pos (by omega), Option.bind_some, intsD_map]; rfl
end
end Pv
set_option Elab.async false
set_option linter.all false
/-! R5: a list that is overwritten from the left -/
namespace Pv
open PySem L2
@[irreducible] def mix (A B : List D) (q : Nat) : List D := A.take q ++ B.drop q
variable {A B : List D} {q : Nat}
theorem mix_len (h : A.length = B.length) (hq : q ≤ B.length) : (mix A B q).length = B.length := by unfold mix; simp; omega
theorem mix_get (h : A.length = B.length) (hq : q < B.length) : (mix A B q)[q]? = some B[q] := by
  unfold mix
  rw [List.getElem?_append_right (by simp; omega)]
  simp [h, Nat.min_eq_left (Nat.le_of_lt hq), hq]
theorem mix_zero : mix A B 0 = B := by simp [mix]
theorem mix_all (h : A.length = B.length) : mix A B B.length = A := by simp [mix, ← h]
theorem mix_set (h : A.length = B.length) (hq : q < B.length) : (mix A B q).set q (A[q]'(by omega)) = mix A B (q + 1) := by
  unfold mix
  refine List.ext_getElem (by simp; omega) fun i h1 h2 => ?_
  have hi : i < B.length := by simp at h2; omega
  rw [List.getElem_set]
  by_cases e : q = i
  · subst e
    rw [if_pos rfl, List.getElem_append_left (by simp; omega)]; simp
  · rw [if_neg e]
    by_cases q2 : i < q
    · rw [List.getElem_append_left (by simp; omega), List.getElem_append_left (by simp; omega)]; simp
    · rw [List.getElem_append_right (by simp; omega), List.getElem_append_right (by simp; omega)]
      have e1 : min (q + 1) A.length = q + 1 := Nat.min_eq_left (by omega)
      have e2 : min q A.length = q := Nat.min_eq_left (by omega)
      simp [e1, e2]
      congr 1; omega
theorem mix_same (h : A.length = B.length) (hq : q < B.length) (e : A[q]'(by omega) = B[q]) : mix A B (q + 1) = mix A B q := by
  rw [← mix_set h hq, e]
  refine List.ext_getElem (by simp) fun i h1 h2 => ?_
  rw [List.getElem_set]
  by_cases e : q = i
  · subst e
    rw [if_pos rfl]
    have := mix_get h hq
    rw [List.getElem?_eq_getElem h2] at this
    exact (Option.some.inj this).symm
  · rw [if_neg e]
end Pv
set_option Elab.async false
set_option linter.all false
/-! R6: data without bools are equal in the program where they are equal -/
namespace Pv
open PySem L2
mutual
def noBl : D → Bool
  | .non => true
  | .int _ => true
  | .str _ => true
  | .tup ds => noBls ds
  | _ => false
def noBls : List D → Bool
  | [] => true
  | d :: ds => noBl d && noBls ds
end
theorem noBls_all {ds : List D} (h : ∀ d ∈ ds, noBl d = true) : noBls ds = true := by
  induction ds with
  | nil => rfl
  | cons d ds ih => show (noBl d && noBls ds) = true; rw [h d List.mem_cons_self, ih fun e he => h e (List.mem_cons_of_mem _ he)]; rfl
theorem toPy_tup {ds : List D} {p : PyData} (h : toPy (.tup ds) = some p) : ∃ ps, toPys ds = some ps ∧ p = .tuple ps := by
  have h' : (toPys ds).map PyData.tuple = some p := h
  obtain ⟨ps, h1, h2⟩ := Option.map_eq_some_iff.mp h'
  exact ⟨ps, h1, h2.symm⟩
theorem toPys_cons {d : D} {ds : List D} {p : List PyData} (h : toPys (d :: ds) = some p) : ∃ q qs, toPy d = some q ∧ toPys ds = some qs ∧ p = q :: qs := by
  have h' : ((toPy d).bind fun x => (toPys ds).map fun xs => x :: xs) = some p := h
  obtain ⟨q, h1, h2⟩ := Option.bind_eq_some_iff.mp h'
  obtain ⟨qs, h3, h4⟩ := Option.map_eq_some_iff.mp h2
  exact ⟨q, qs, h1, h3, h4.symm⟩
mutual
theorem eqv_iff : ∀ (d e : D) (p q : PyData), noBl d = true → noBl e = true → toPy d = some p → toPy e = some q → (PyData.eqv p q = true ↔ d = e)
  | .non, .non, _, _, _, _, h1, h2 => by cases h1; cases h2; simp [PyData.eqv]
  | .non, .int j, _, _, _, _, h1, h2 => by cases h1; cases h2; simp [PyData.eqv]
  | .non, .str j, _, _, _, _, h1, h2 => by cases h1; cases h2; simp [PyData.eqv]
  | .non, .tup es, _, _, _, _, h1, h2 => by cases h1; obtain ⟨ps, _, rfl⟩ := toPy_tup h2; simp [PyData.eqv]
  | .int i, .non, _, _, _, _, h1, h2 => by cases h1; cases h2; simp [PyData.eqv]
  | .int i, .int j, _, _, _, _, h1, h2 => by cases h1; cases h2; simp [PyData.eqv]
  | .int i, .str j, _, _, _, _, h1, h2 => by cases h1; cases h2; simp [PyData.eqv]
  | .int i, .tup es, _, _, _, _, h1, h2 => by cases h1; obtain ⟨ps, _, rfl⟩ := toPy_tup h2; simp [PyData.eqv]
  | .str i, .non, _, _, _, _, h1, h2 => by cases h1; cases h2; simp [PyData.eqv]
  | .str i, .int j, _, _, _, _, h1, h2 => by cases h1; cases h2; simp [PyData.eqv]
  | .str i, .str j, _, _, _, _, h1, h2 => by cases h1; cases h2; simp [PyData.eqv]
  | .str i, .tup es, _, _, _, _, h1, h2 => by cases h1; obtain ⟨ps, _, rfl⟩ := toPy_tup h2; simp [PyData.eqv]
  | .tup ds, .non, _, _, _, _, h1, h2 => by cases h2; obtain ⟨ps, _, rfl⟩ := toPy_tup h1; simp [PyData.eqv]
  | .tup ds, .int j, _, _, _, _, h1, h2 => by cases h2; obtain ⟨ps, _, rfl⟩ := toPy_tup h1; simp [PyData.eqv]
  | .tup ds, .str j, _, _, _, _, h1, h2 => by cases h2; obtain ⟨ps, _, rfl⟩ := toPy_tup h1; simp [PyData.eqv]
  | .tup ds, .tup es, _, _, n1, n2, h1, h2 => by
    obtain ⟨ps, k1, rfl⟩ := toPy_tup h1
    obtain ⟨qs, k2, rfl⟩ := toPy_tup h2
    have := eqvs_iff ds es ps qs n1 n2 k1 k2
    simp [PyData.eqv, this]
  | .bl _, _, _, _, n1, _, _, _ => by cases n1
  | .lst _, _, _, _, n1, _, _, _ => by cases n1
  | .dct _ _, _, _, _, n1, _, _, _ => by cases n1
  | .scr _, _, _, _, n1, _, _, _ => by cases n1
  | .ktp _, _, _, _, n1, _, _, _ => by cases n1
  | .non, .bl _, _, _, _, n1, _, _ => by cases n1
  | .non, .lst _, _, _, _, n1, _, _ => by cases n1
  | .non, .dct _ _, _, _, _, n1, _, _ => by cases n1
  | .non, .scr _, _, _, _, n1, _, _ => by cases n1
  | .non, .ktp _, _, _, _, n1, _, _ => by cases n1
  | .int _, .bl _, _, _, _, n1, _, _ => by cases n1
  | .int _, .lst _, _, _, _, n1, _, _ => by cases n1
  | .int _, .dct _ _, _, _, _, n1, _, _ => by cases n1
  | .int _, .scr _, _, _, _, n1, _, _ => by cases n1
  | .int _, .ktp _, _, _, _, n1, _, _ => by cases n1
  | .str _, .bl _, _, _, _, n1, _, _ => by cases n1
  | .str _, .lst _, _, _, _, n1, _, _ => by cases n1
  | .str _, .dct _ _, _, _, _, n1, _, _ => by cases n1
  | .str _, .scr _, _, _, _, n1, _, _ => by cases n1
  | .str _, .ktp _, _, _, _, n1, _, _ => by cases n1
  | .tup _, .bl _, _, _, _, n1, _, _ => by cases n1
  | .tup _, .lst _, _, _, _, n1, _, _ => by cases n1
  | .tup _, .dct _ _, _, _, _, n1, _, _ => by cases n1
  | .tup _, .scr _, _, _, _, n1, _, _ => by cases n1
  | .tup _, .ktp _, _, _, _, n1, _, _ => by cases n1
theorem eqvs_iff : ∀ (d e : List D) (p q : List PyData), noBls d = true → noBls e = true → toPys d = some p → toPys e = some q → (PyData.eqvAll p q = true ↔ d = e)
  | [], [], _, _, _, _, h1, h2 => by cases h1; cases h2; simp [PyData.eqvAll]
  | [], e :: es, _, _, _, _, h1, h2 => by cases h1; obtain ⟨a, as, _, _, rfl⟩ := toPys_cons h2; simp [PyData.eqvAll]
  | d :: ds, [], _, _, _, _, h1, h2 => by cases h2; obtain ⟨a, as, _, _, rfl⟩ := toPys_cons h1; simp [PyData.eqvAll]
  | d :: ds, e :: es, _, _, n1, n2, h1, h2 => by
    obtain ⟨a, as, a1, a2, rfl⟩ := toPys_cons h1
    obtain ⟨b, bs, b1, b2, rfl⟩ := toPys_cons h2
    have n1' : (noBl d && noBls ds) = true := n1
    have n2' : (noBl e && noBls es) = true := n2
    rw [Bool.and_eq_true] at n1' n2'
    have k1 := eqv_iff d e a b n1'.1 n2'.1 a1 b1
    have k2 := eqvs_iff ds es as bs n1'.2 n2'.2 a2 b2
    simp [PyData.eqvAll, k1, k2]
end
theorem eq_dec {k l : Nat} {ds es : List D} (h : layD 64 (.tup ds) = true) (h' : layD 64 (.tup es) = true) (n : noBls ds = true) (n' : noBls es = true) :
    ∃ b : Bool, (b = true ↔ ds = es) ∧ gEq (k, .tup ds) (l, .tup es) = some (0, .bl b) ∧ gNe (k, .tup ds) (l, .tup es) = some (0, .bl (!b)) := by
  obtain ⟨p, h1, h2, h3, h4⟩ := layD_py 64 _ h
  obtain ⟨q, j1, j2, j3, j4⟩ := layD_py 64 _ h'
  have hs : SeqAt.shaped p = true := by
    unfold SeqAt.shaped
    rw [h2, decide_eq_true h3]; rfl
  have hs' : SeqAt.shaped q = true := by
    unfold SeqAt.shaped
    rw [j2, decide_eq_true j3]; rfl
  have e : gEqD (.tup ds) (.tup es) = some (PyData.eqv p q) := by
    unfold gEqD
    show (toPy (.tup ds)).bind _ = _
    rw [h1]
    show (toPy (.tup es)).bind _ = _
    rw [j1]
    show (if _ then _ else _) = _
    rw [if_pos ⟨hs, hs'⟩]
  have o1 : eqOk (k, .tup ds) = true := by simp [eqOk]
  have o2 : eqOk (l, .tup es) = true := by simp [eqOk]
  refine ⟨PyData.eqv p q, ?_, ?_, ?_⟩
  · rw [eqv_iff (.tup ds) (.tup es) p q n n' h1 j1]; simp
  · unfold gEq; rw [o1, o2]; show Option.map _ (gEqD (.tup ds) (.tup es)) = _; rw [e]; rfl
  · unfold gNe; rw [o1, o2]; show Option.map _ (gEqD (.tup ds) (.tup es)) = _; rw [e]; rfl
end Pv
set_option Elab.async false
set_option linter.all false
set_option maxRecDepth 100000
/-! R7: sorted pairs of ints; slices; sums -/
namespace Pv
open PySem L2
def prD (p : Nat × Nat) : D := .tup [.int (p.1 : Int), .int (p.2 : Int)]
def lePr (p q : Nat × Nat) : Bool := decide (p.1 < q.1 ∨ (p.1 = q.1 ∧ p.2 ≤ q.2))
theorem leD_pr (p q : Nat × Nat) : leD (prD p) (prD q) = lePr p q := by
  have h : leD (prD p) (prD q) = !(PyProof.Rows.lexLt PyProof.Rows.itemOrd [.inl 1, .inl (q.1 : Int), .inl 1, .inl (q.2 : Int), .inl 0] [.inl 1, .inl (p.1 : Int), .inl 1, .inl (p.2 : Int), .inl 0]) := rfl
  have e : PyProof.Rows.lexLt PyProof.Rows.itemOrd [.inl 1, .inl (q.1 : Int), .inl 1, .inl (q.2 : Int), .inl 0] [.inl 1, .inl (p.1 : Int), .inl 1, .inl (p.2 : Int), .inl 0] = (decide ((1 : Int) < 1) || (!decide ((1 : Int) < 1) && (decide ((q.1 : Int) < p.1) || (!decide ((p.1 : Int) < q.1) && (decide ((1 : Int) < 1) || (!decide ((1 : Int) < 1) && (decide ((q.2 : Int) < p.2) || (!decide ((p.2 : Int) < q.2) && (decide ((0 : Int) < 0) || (!decide ((0 : Int) < 0) && false)))))))))) := rfl
  rw [h, e]
  unfold lePr
  rw [Bool.eq_iff_iff]
  simp
  omega
theorem lePr_trans (a b c : Nat × Nat) (h1 : lePr a b = true) (h2 : lePr b c = true) : lePr a c = true := by
  unfold lePr at *
  simp at *
  omega
theorem lePr_total (a b : Nat × Nat) : (lePr a b || lePr b a) = true := by
  unfold lePr
  simp
  omega
theorem toPys_pr : ∀ xs : List (Nat × Nat), toPys (xs.map prD) = some (xs.map fun p : Nat × Nat => PyData.tuple [.int (p.1 : Int), .int (p.2 : Int)])
  | [] => rfl
  | x :: xs => by
    show (toPy (prD x)).bind _ = _
    have : toPy (prD x) = some (.tuple [.int (x.1 : Int), .int (x.2 : Int)]) := rfl
    rw [this]
    show (toPys (xs.map prD)).map _ = _
    rw [toPys_pr xs]; rfl
theorem okSort_pr (xs : List (Nat × Nat)) : okSort (xs.map fun p : Nat × Nat => PyData.tuple [.int (p.1 : Int), .int (p.2 : Int)]) = true := by
  unfold okSort
  rw [Bool.and_eq_true]
  refine ⟨List.all_eq_true.mpr fun p hp => ?_, ?_⟩
  · obtain ⟨x, _, rfl⟩ := List.mem_map.mp hp
    rw [Bool.and_eq_true]
    refine ⟨decide_eq_true (by simp [PyData.depth, PyData.depthAll]), List.all_eq_true.mpr fun q hq => ?_⟩
    obtain ⟨y, _, rfl⟩ := List.mem_map.mp hq
    rfl
  · rw [Bool.or_eq_true]
    refine .inl (List.all_eq_true.mpr fun q hq => ?_)
    obtain ⟨y, _, rfl⟩ := List.mem_map.mp hq
    rfl
theorem sorted_pr {k : Nat} {xs : List (Nat × Nat)} (hk : k ≤ 1) (hl : xs.length ≤ 1000000) : gSorted (k, .lst (xs.map prD)) = some (1, .lst ((xs.mergeSort lePr).map prD)) := by
  unfold gSorted
  rw [ld_l, if_pos hk]
  show sortD (xs.map prD) = _
  unfold sortD
  rw [toPys_pr]
  show (if okSort (xs.map fun p : Nat × Nat => PyData.tuple [.int (p.1 : Int), .int (p.2 : Int)]) = true ∧ (xs.map prD).length ≤ big then some (1, D.lst ((xs.map prD).mergeSort leD)) else none) = _
  rw [if_pos ⟨okSort_pr xs, by simpa [big] using hl⟩]
  congr 3
  rw [List.map_mergeSort (r := lePr) (s := leD) (f := prD) fun a _ b _ => (leD_pr a b).symm]
/-- the first of a sorted list is the least -/
theorem sorted_head {xs : List (Nat × Nat)} {p : Nat × Nat} {r : List (Nat × Nat)} (h : xs.mergeSort lePr = p :: r) : p ∈ xs ∧ ∀ q ∈ xs, lePr p q = true := by
  have hs := List.pairwise_mergeSort lePr_trans lePr_total xs
  rw [h] at hs
  have hp : ∀ q, q ∈ p :: r ↔ q ∈ xs := fun q => by rw [← h]; exact List.mem_mergeSort
  refine ⟨(hp p).mp List.mem_cons_self, fun q hq => ?_⟩
  rcases List.mem_cons.mp ((hp q).mpr hq) with rfl | z
  · have := lePr_total q q; simpa using this
  · exact (List.pairwise_cons.mp hs).1 q z
theorem sum_cast {α : Type} (f : α → Nat) : ∀ xs : List α, (xs.map fun a => (f a : Int)).sum = (((xs.map f).sum : Nat) : Int)
  | [] => rfl
  | x :: xs => by
    rw [List.map_cons, List.map_cons, List.sum_cons, List.sum_cons, sum_cast f xs]; omega
end Pv
set_option Elab.async false
set_option linter.all false
set_option maxRecDepth 100000
/-! C1: what all laws have: the row, like -/
namespace CL
open PySem L2 Pv
def b_law_mixed : Fs := bSeq (sAsg 2 (pC (.int 0))) (bSeq (sIf (bVal (pOp2 (gCmpI fun i j => decide (j < i)) (pCall (on1 gLen) (aCons (pBv 0) aNil)) (pC (.int 0)))) (sAsg 2 (pOp2 gIx (pBv 0) (pOp2 gMod (pBv 1) (pCall (on1 gLen) (aCons (pBv 0) aNil))))) bNil) (bSeq (sAsg 3 (pOp2 gMod (pCall (on1 gInt) (aCons (pOp2 gAdd (pOp2 gAdd (pOp2 gMulI (pBv 2) (pC (.int 48271))) (pOp2 gMulI (pBv 1) (pC (.int 69621)))) (pC (.int 8191))) aNil)) (pC (.int 2147483647)))) (bSeq (sAsg 4 (pOp2 gMod (pCall (on1 gInt) (aCons (pOp2 gAdd (pOp2 gAdd (pOp2 gMulI (pBv 3) (pBv 3)) (pOp2 gFdiv (pBv 3) (pC (.int 7)))) (pOp2 gMulI (pBv 1) (pC (.int 16807)))) aNil)) (pC (.int 2147483629)))) (bSeq (sAsg 5 (pOp2 gMod (pCall (on1 gInt) (aCons (pOp2 gAdd (pOp2 gAdd (pOp2 gMulI (pBv 4) (pBv 4)) (pOp2 gFdiv (pBv 4) (pC (.int 11)))) (pC (.int 40692))) aNil)) (pC (.int 2147483563)))) (sRet (pOp2 gMod (pOp2 gFdiv (pBv 5) (pC (.int 5))) (pC (.int 1000003))))))))
def m_law_mixed : List D → Option W := mkM 6 2 b_law_mixed
def b_law_row : Fs := bSeq (sAsg 2 (pC (.int 0))) (bSeq (sIf (bAnd (bVal (pOp2 (gCmpI fun i j => decide (j < i)) (pCall (on1 gLen) (aCons (pBv 0) aNil)) (pC (.int 0)))) (bVal (pOp2 (gCmpI fun i j => decide (j ≤ i)) (pOp2 gIx (pBv 0) (pC (.int 0))) (pOp2 gPow (pC (.int 10)) (pC (.int 18)))))) (sAsg 2 (pOp2 gIx (pBv 0) (pC (.int 0)))) bNil) (bSeq (sAsg 3 (pLst aNil)) (bSeq (sFor (iRange1 (pBv 1)) (.nm 4) (sIf (bVal (pOp2 (gCmpI fun i j => decide (j < i)) (pBv 2) (pC (.int 0)))) (bSeq (sApp 3 (pOp2 gMod (pCall (on1 gInt) (aCons (pBv 2) aNil)) (pC (.int 1000)))) (sAsg 2 (pOp2 gFdiv (pBv 2) (pC (.int 1000))))) (sApp 3 (pFn m_law_mixed [] (aCons (pBv 0) (aCons (pBv 4) aNil)))))) (sRet (pBv 3)))))
def m_law_row : List D → Option W := mkM 5 2 b_law_row
def b_law_is_int : Fs := sRet (pAnd (pIsi .int (pBv 0)) (pNot (pIsi .bl (pBv 0))))
def m_law_is_int : List D → Option W := mkM 1 1 b_law_is_int
def b_law_like (m : List D → Option W) : Fs := bSeq (sIf (bVal (pOp2 gIsN (pBv 1) (pC .non))) (sRet (pOp2 gIsN (pBv 0) (pC .non))) bNil) (bSeq (sIf (bVal (pIsi .bl (pBv 1))) (sRet (pAnd (pIsi .bl (pBv 0)) (pOp2 gEq (pBv 0) (pBv 1)))) bNil) (bSeq (sIf (bVal (pIsi .tup (pBv 1))) (bSeq (sIf (bOr (bNot (bVal (pIsi .tup (pBv 0)))) (bVal (pOp2 gNe (pCall (on1 gLen) (aCons (pBv 0) aNil)) (pCall (on1 gLen) (aCons (pBv 1) aNil))))) (sRet (pC (.bl false))) bNil) (sRet (pCall (on1 gAll) (aCons (pLc 0 (iRange1 (pCall (on1 gLen) (aCons (pBv 1) aNil))) (.nm 2) [2] bYes (pFn m [] (aCons (pOp2 gIx (pBv 0) (pBv 2)) (aCons (pOp2 gIx (pBv 1) (pBv 2)) aNil)))) aNil)))) bNil) (bSeq (sIf (bVal (pIsi .str (pBv 1))) (sRet (pAnd (pIsi .str (pBv 0)) (pOp2 gEq (pBv 0) (pBv 1)))) bNil) (sRet (pAnd (pFn m_law_is_int [] (aCons (pBv 0) aNil)) (pOp2 gEq (pBv 0) (pBv 1)))))))
def r_law_like : Nat → List D → Option W
  | 0 => fun _ => none
  | n + 1 => mkM 3 2 (b_law_like (r_law_like n))
def m_law_like : List D → Option W := r_law_like 6
theorem m0 (m : Int) (h : 0 < m) (x : Int) : ∃ c : Nat, x % m = c ∧ (c : Int) < m := ⟨(x % m).toNat, by have := Int.emod_nonneg x (show m ≠ 0 by omega); omega, by have := Int.emod_nonneg x (show m ≠ 0 by omega); have := Int.emod_lt_of_pos x h; omega⟩
theorem mixed (ns : List Int) (k : Int) (hk : 0 ≤ k) : ∃ c : Nat, m_law_mixed [.scr ns, .int k] = some (0, .int c) := by
  have key : ∃ w, m_law_mixed [.scr ns, .int k] = some w ∧ ∃ c : Nat, w = (0, .int c) := by
    refine def_ex _ rfl (fun w ⟨c, h⟩ => by subst h; rfl) fun Q hQ => ?_
    unfold b_law_mixed
    by_cases h : 0 < ns.length
    · have hn : 0 ≤ k % (ns.length : Int) := Int.emod_nonneg _ (by omega)
      have hl : k % (ns.length : Int) < ns.length := Int.emod_lt_of_pos _ (by omega)
      obtain ⟨j, hj⟩ := Int.eq_ofNat_of_zero_le hn
      have hj2 : j < ns.length := by omega
      simp [h, hj, hj2]
      obtain ⟨a, ha, ha2⟩ := m0 2147483647 (by omega) (ns[j] * 48271 + k * 69621 + 8191)
      rw [ha]
      rw [if_pos (by omega)]
      simp
      obtain ⟨b, hb, hb2⟩ := m0 2147483629 (by omega) ((a : Int) * a + a / 7 + k * 16807)
      rw [hb]
      rw [if_pos (by omega)]
      simp
      obtain ⟨c, hc, _⟩ := m0 1000003 (by omega) (((b : Int) * b + b / 11 + 40692) % 2147483563 / 5)
      rw [hc]
      exact hQ _ _ ⟨c, rfl⟩
    · simp [h]
      obtain ⟨a, ha, ha2⟩ := m0 2147483647 (by omega) (k * 69621 + 8191)
      rw [ha]
      rw [if_pos (by omega)]
      simp
      obtain ⟨b, hb, hb2⟩ := m0 2147483629 (by omega) ((a : Int) * a + a / 7 + k * 16807)
      rw [hb]
      rw [if_pos (by omega)]
      simp
      obtain ⟨c, hc, _⟩ := m0 1000003 (by omega) (((b : Int) * b + b / 11 + 40692) % 2147483563 / 5)
      rw [hc]
      exact hQ _ _ ⟨c, rfl⟩
  obtain ⟨w, h1, c, h2⟩ := key
  exact ⟨c, by rw [h1, h2]⟩
theorem row0 (ns : List Int) (n : Nat) (hn : n ≤ 1000) : ∃ cs : List Nat, cs.length = n ∧ m_law_row [.scr ns, .int n] = some (1, .lst (cs.map IN)) := by
  have key : ∃ w, m_law_row [.scr ns, .int n] = some w ∧ ∃ cs : List Nat, cs.length = n ∧ w = (1, .lst (cs.map IN)) := by
    refine def_ex _ rfl (fun w ⟨cs, h1, h⟩ => by
      subst h
      show (cs.map IN).all (cleanD 0) = true
      exact List.all_eq_true.mpr fun d hd => by obtain ⟨c, _, rfl⟩ := List.mem_map.mp hd; rfl) fun Q hQ => ?_
    unfold b_law_row
    have hp : gPow (0, D.int 10) (0, D.int 18) = some (0, D.int 1000000000000000000) := by simp [gPow]
    have hn' : n ≤ 1000000000 := by omega
    have fin : ∀ big : Int, 0 ≤ big → Wp (loopF (.nm 4) (sIf (bVal (pOp2 (gCmpI fun i j => decide (j < i)) (pBv 2) (pC (.int 0)))) (bSeq (sApp 3 (pOp2 gMod (pCall (on1 gInt) (aCons (pBv 2) aNil)) (pC (.int 1000)))) (sAsg 2 (pOp2 gFdiv (pBv 2) (pC (.int 1000))))) (sApp 3 (pFn m_law_mixed [] (aCons (pBv 0) (aCons (pBv 4) aNil))))) ((List.range n).map IN) [some (0, .scr ns), some (0, .int n), some (0, .int big), some (1, .lst []), none]) (thenQ (sRet (pBv 3)) Q) := by
      intro big hb0
      obtain ⟨big, rfl⟩ := Int.eq_ofNat_of_zero_le hb0
      refine wp_range n (fun a ρ => ∃ (big : Nat) (cs : List Nat) (x : Option W), cs.length = a ∧ ρ = [some (0, .scr ns), some (0, .int n), some (0, .int big), some (1, .lst (cs.map IN)), x]) (by simp) ⟨big, [], none, rfl, rfl⟩ ?_ ?_
      · rintro a ρ ha ⟨big, cs, x, h1, rfl⟩
        by_cases hb : 0 < big
        · have hb' : (0 : Int) < (big : Int) := by omega
          simp [hb, hb', Pv.big]
          refine ⟨by omega, big / 1000, cs ++ [big % 1000], by simp [h1], by omega, ?_⟩
          simp [IN]
        · obtain ⟨c, hc⟩ := mixed ns a (by omega)
          have hb' : ¬ (0 : Int) < (big : Int) := by omega
          simp [hb, hb', hc, Pv.big]
          refine ⟨by omega, big, cs ++ [c], by simp [h1], rfl, ?_⟩
          simp [IN]
      · rintro ρ ⟨big, cs, x, h1, rfl⟩
        simp
        exact hQ _ _ ⟨cs, h1, rfl⟩
    by_cases h : 0 < ns.length
    · by_cases h2 : (1000000000000000000 : Int) ≤ ns[0]
      · simp [h, h2, hp, hn']
        exact fin ns[0] (by omega)
      · simp [h, h2, hp, hn']
        exact fin 0 (by omega)
    · simp [h, hn']
      exact fin 0 (by omega)
  obtain ⟨w, h1, cs, h2, h3⟩ := key
  exact ⟨cs, h2, by rw [h1, h3]⟩
/-- THE ROW: numbers of its own -/
theorem row (ns : List Int) (n : Nat) (hn : n ≤ 1000) : ∃ r : Nat → Nat, m_law_row [.scr ns, .int n] = some (1, .lst ((List.range n).map fun i => IN (r i))) := by
  obtain ⟨cs, h1, h2⟩ := row0 ns n hn
  refine ⟨fun i => cs.getD i 0, ?_⟩
  rw [h2]
  congr 3
  refine List.ext_getElem (by simp [h1]) fun i q1 q2 => ?_
  have : i < cs.length := by simpa using q1
  simp [this]
/-! like -/
def likeOk : Nat → D → Bool
  | _, .int _ => true
  | _, .str _ => true
  | _, .bl _ => true
  | _, .non => true
  | n + 1, .tup ds => decide (ds.length ≤ 1000) && ds.all (likeOk n)
  | _, _ => false
@[simp] theorem is_int_int (i : Int) : m_law_is_int [.int i] = some (0, .bl true) := by rfl
theorem blsD_true {α : Type} : ∀ l : List α, blsD (l.map fun _ => D.bl true) = some (l.map fun _ => true)
  | [] => rfl
  | a :: l => by
    show (blsD (l.map fun _ => D.bl true)).map _ = _
    rw [blsD_true l]; rfl
theorem like_refl : ∀ (n : Nat) (x : D), likeOk n x = true → r_law_like (n + 1) [x, x] = some (0, .bl true)
  | n, .int i, _ => def_of rfl rfl fun Q hQ => by
    unfold b_law_like
    simp
    exact hQ _
  | n, .str i, _ => def_of rfl rfl fun Q hQ => by
    unfold b_law_like
    simp
    exact hQ _
  | n, .bl i, _ => def_of rfl rfl fun Q hQ => by
    unfold b_law_like
    simp
    exact hQ _
  | n, .non, _ => def_of rfl rfl fun Q hQ => by
    unfold b_law_like
    simp
    exact hQ _
  | 0, .tup ds, h => by cases h
  | n + 1, .tup ds, h => def_of rfl rfl fun Q hQ => by
    have h' : (decide (ds.length ≤ 1000) && ds.all (likeOk n)) = true := h
    rw [Bool.and_eq_true] at h'
    have hl : ds.length ≤ 1000 := of_decide_eq_true h'.1
    have hl2 : ds.length ≤ 1000000 := by omega
    have hl3 : ds.length ≤ 1000000000 := by omega
    unfold b_law_like
    simp [hl2, hl3]
    rw [comp_map (fun _ : Nat => D.bl true)]
    · have e : ((List.range ds.length).all fun x => true) = true := List.all_eq_true.mpr fun _ _ => rfl
      simp [gAll, blsD_true, e]
      exact hQ _
    · intro a ha
      have ha' : a < ds.length := List.mem_range.mp ha
      have ih := like_refl n ds[a] (List.all_eq_true.mp h'.2 _ (List.getElem_mem ha'))
      simp [ha', ih]
  | _, .lst _, h => by cases ‹Nat› <;> cases h
  | _, .dct _ _, h => by cases ‹Nat› <;> cases h
  | _, .scr _, h => by cases ‹Nat› <;> cases h
  | _, .ktp _, h => by cases ‹Nat› <;> cases h
theorem like (x : D) (h : likeOk 5 x = true) : m_law_like [x, x] = some (0, .bl true) := like_refl 5 x h
end CL
set_option Elab.async false
set_option linter.all false
set_option maxRecDepth 100000
/-! printed by gen.py: the defs of the law as data -/
namespace K36
open PySem PySem.Spec PyProof.Rows L2 Pv
def b_law_mixed : Fs := bSeq (sAsg 2 (pC (.int 0))) (bSeq (sIf (bVal (pOp2 (gCmpI fun i j => decide (j < i)) (pCall (on1 gLen) (aCons (pBv 0) aNil)) (pC (.int 0)))) (sAsg 2 (pOp2 gIx (pBv 0) (pOp2 gMod (pBv 1) (pCall (on1 gLen) (aCons (pBv 0) aNil))))) bNil) (bSeq (sAsg 3 (pOp2 gMod (pCall (on1 gInt) (aCons (pOp2 gAdd (pOp2 gAdd (pOp2 gMulI (pBv 2) (pC (.int 48271))) (pOp2 gMulI (pBv 1) (pC (.int 69621)))) (pC (.int 8191))) aNil)) (pC (.int 2147483647)))) (bSeq (sAsg 4 (pOp2 gMod (pCall (on1 gInt) (aCons (pOp2 gAdd (pOp2 gAdd (pOp2 gMulI (pBv 3) (pBv 3)) (pOp2 gFdiv (pBv 3) (pC (.int 7)))) (pOp2 gMulI (pBv 1) (pC (.int 16807)))) aNil)) (pC (.int 2147483629)))) (bSeq (sAsg 5 (pOp2 gMod (pCall (on1 gInt) (aCons (pOp2 gAdd (pOp2 gAdd (pOp2 gMulI (pBv 4) (pBv 4)) (pOp2 gFdiv (pBv 4) (pC (.int 11)))) (pC (.int 40692))) aNil)) (pC (.int 2147483563)))) (sRet (pOp2 gMod (pOp2 gFdiv (pBv 5) (pC (.int 5))) (pC (.int 1000003))))))))
def m_law_mixed : List D → Option W := mkM 6 2 b_law_mixed
def b_law_row : Fs := bSeq (sAsg 2 (pC (.int 0))) (bSeq (sIf (bAnd (bVal (pOp2 (gCmpI fun i j => decide (j < i)) (pCall (on1 gLen) (aCons (pBv 0) aNil)) (pC (.int 0)))) (bVal (pOp2 (gCmpI fun i j => decide (j ≤ i)) (pOp2 gIx (pBv 0) (pC (.int 0))) (pOp2 gPow (pC (.int 10)) (pC (.int 18)))))) (sAsg 2 (pOp2 gIx (pBv 0) (pC (.int 0)))) bNil) (bSeq (sAsg 3 (pLst aNil)) (bSeq (sFor (iRange1 (pBv 1)) (.nm 4) (sIf (bVal (pOp2 (gCmpI fun i j => decide (j < i)) (pBv 2) (pC (.int 0)))) (bSeq (sApp 3 (pOp2 gMod (pCall (on1 gInt) (aCons (pBv 2) aNil)) (pC (.int 1000)))) (sAsg 2 (pOp2 gFdiv (pBv 2) (pC (.int 1000))))) (sApp 3 (pFn m_law_mixed [] (aCons (pBv 0) (aCons (pBv 4) aNil)))))) (sRet (pBv 3)))))
def m_law_row : List D → Option W := mkM 5 2 b_law_row
def b_law_ringed : Fs := bSeq (sAsgT (.tp [.nm 2, .nm 3]) (pBv 1)) (bSeq (sPar [4, 5] (aCons (pCall (on1 gLen) (aCons (pBv 3) aNil)) (aCons (pOp2 gMod (pCall (on1 gInt) (aCons (pOp2 gIx (pBv 0) (pC (.int 66))) aNil)) (pC (.int 6))) aNil))) (bSeq (sIf (bVal (pOp2 gEq (pBv 5) (pC (.int 0)))) (sRet (pBv 1)) bNil) (bSeq (sIf (bVal (pOp2 (gIn false) (pBv 5) (pTup (aCons (pC (.int 1)) (aCons (pC (.int 2)) aNil))))) (sAsg 6 (pTup (aCons (pTup (aCons (pVar 4) (aCons (pOp2 gAdd (pBv 4) (pC (.int 1))) aNil))) (aCons (pTup (aCons (pTup (aCons (pC (.str "num")) (aCons (pOp2 gMod (pCall (on1 gInt) (aCons (pOp2 gIx (pBv 0) (pC (.int 67))) aNil)) (pC (.int 5))) aNil))) (aCons (pC .non) aNil))) aNil)))) (sAsg 6 (pTup (aCons (pTup (aCons (pC .non) (aCons (pOp2 gAdd (pBv 4) (pC (.int 1))) aNil))) (aCons (pTup (aCons (pVar 4) (aCons (pOp2 gAdd (pBv 4) (pC (.int 2))) aNil))) (aCons (pTup (aCons (pTup (aCons (pC (.str "num")) (aCons (pOp2 gMod (pCall (on1 gInt) (aCons (pOp2 gIx (pBv 0) (pC (.int 67))) aNil)) (pC (.int 5))) aNil))) aNil)) aNil)))))) (bSeq (sAsg 3 (pOp2 gAdd (pBv 3) (pBv 6))) (bSeq (sAsg 7 (pLc 0 (iRange1 (pBv 4)) (.nm 8) [8] (bVal (pOp2 gNotN (pOp2 gIx (pBv 3) (pBv 8)) (pC .non))) (pVar 8))) (bSeq (sIf (bAnd (bVal (pOp2 (gIn false) (pBv 5) (pTup (aCons (pC (.int 2)) (aCons (pC (.int 4)) aNil))))) (bVal (pOp2 (gCmpI fun i j => decide (i < j)) (pCall (on1 gLen) (aCons (pBv 2) aNil)) (pC (.int 4))))) (sAsg 2 (pOp2 gAdd (pBv 2) (pTup (aCons (pOp2 gAdd (pBv 4) (pOp2 gMulI (pOp2 gMod (pCall (on1 gInt) (aCons (pOp2 gIx (pBv 0) (pC (.int 68))) aNil)) (pC (.int 2))) (pCall (on1 gInt) (aCons (pOp2 gEq (pBv 5) (pC (.int 4))) aNil)))) aNil)))) bNil) (bSeq (sIf (bAnd (bVal (pOp2 gEq (pBv 5) (pC (.int 3)))) (bVal (pOp2 (gCmpI fun i j => decide (j < i)) (pCall (on1 gLen) (aCons (pBv 7) aNil)) (pC (.int 0))))) (bSeq (sAsg 8 (pOp2 gIx (pBv 7) (pOp2 gMod (pCall (on1 gInt) (aCons (pOp2 gIx (pBv 0) (pC (.int 69))) aNil)) (pCall (on1 gLen) (aCons (pBv 7) aNil))))) (sAsg 3 (pOp2 gAdd (pOp2 gAdd (pSl (pBv 3) oNone (oSome (pBv 8))) (pTup (aCons (pOp2 gAdd (pSl (pOp2 gIx (pBv 3) (pBv 8)) (oSome (pC (.int 1))) oNone) (pTup (aCons (pVar 4) aNil))) aNil))) (pSl (pBv 3) (oSome (pOp2 gAdd (pBv 8) (pC (.int 1)))) oNone)))) bNil) (bSeq (sIf (bAnd (bVal (pOp2 gEq (pBv 5) (pC (.int 5)))) (bVal (pOp2 (gCmpI fun i j => decide (j < i)) (pCall (on1 gLen) (aCons (pBv 7) aNil)) (pC (.int 0))))) (sAsg 3 (pOp2 gAdd (pOp2 gAdd (pSl (pBv 3) oNone (oSome (pBv 4))) (pTup (aCons (pTup (aCons (pOp2 gIx (pBv 7) (pOp2 gMod (pCall (on1 gInt) (aCons (pOp2 gIx (pBv 0) (pC (.int 69))) aNil)) (pCall (on1 gLen) (aCons (pBv 7) aNil)))) (aCons (pOp2 gAdd (pBv 4) (pC (.int 1))) aNil))) aNil))) (pSl (pBv 3) (oSome (pOp2 gAdd (pBv 4) (pC (.int 1)))) oNone))) bNil) (sRet (pTup (aCons (pVar 2) (aCons (pVar 3) aNil))))))))))))
def m_law_ringed : List D → Option W := mkM 9 2 b_law_ringed
def b_law_is_int : Fs := sRet (pAnd (pIsi .int (pBv 0)) (pNot (pIsi .bl (pBv 0))))
def m_law_is_int : List D → Option W := mkM 1 1 b_law_is_int
def b_law_held : Fs := bSeq (sIf (bVal (pOp2 gIsN (pBv 0) (pC .non))) (sRet (pLst aNil)) bNil) (sRet (pLc 0 (iSeq (pVar 0)) (.nm 1) [1] (bVal (pFn m_law_is_int [] (aCons (pBv 1) aNil))) (pVar 1)))
def m_law_held : List D → Option W := mkM 2 1 b_law_held
def b_law_counts : Fs := bSeq (sAsg 1 (pLc 0 (iSeq (pOp2 gIx (pBv 0) (pC (.int 0)))) (.nm 6) [6] (bVal (pOp2 gNotN (pBv 6) (pC .non))) (pVar 6))) (bSeq (sFor (iSeq (pOp2 gIx (pBv 0) (pC (.int 1)))) (.nm 2) (sExt 1 (pFn m_law_held [] (aCons (pBv 2) aNil)))) (bSeq (sAsg 3 (pLst aNil)) (bSeq (sFor (iRange1 (pCall (on1 gLen) (aCons (pOp2 gIx (pBv 0) (pC (.int 1))) aNil))) (.nm 4) (bSeq (sAsg 5 (pC .non)) (bSeq (sIf (bVal (pOp2 gNotN (pOp2 gIx (pOp2 gIx (pBv 0) (pC (.int 1))) (pBv 4)) (pC .non))) (sAsg 5 (pOp2 gCount (pBv 1) (pBv 4))) bNil) (sApp 3 (pVar 5))))) (sRet (pBv 3)))))
def m_law_counts : List D → Option W := mkM 7 1 b_law_counts
def b_law_freed : Fs := bSeq (sFor (iRange1 (pOp2 gAdd (pCall (on1 gLen) (aCons (pOp2 gIx (pBv 0) (pC (.int 1))) aNil)) (pC (.int 1)))) (.nm 1) (bSeq (sAsg 2 (pFn m_law_counts [] (aCons (pBv 0) aNil))) (bSeq (sAsg 3 (pLc 0 (iRange1 (pCall (on1 gLen) (aCons (pBv 2) aNil))) (.nm 4) [4] bYes (pOp2 gIx (pTup (aCons (pOp2 gIx (pOp2 gIx (pBv 0) (pC (.int 1))) (pBv 4)) (aCons (pC .non) aNil))) (pCall (on1 gInt) (aCons (pOp2 gEq (pOp2 gIx (pBv 2) (pBv 4)) (pC (.int 0))) aNil))))) (sAsg 0 (pTup (aCons (pOp2 gIx (pBv 0) (pC (.int 0))) (aCons (pCall (on1 gTupOf) (aCons (pBv 3) aNil)) aNil))))))) (sRet (pBv 0))
def m_law_freed : List D → Option W := mkM 5 1 b_law_freed
def b_is_address : Fs := sRet (pIsi .int (pBv 0))
def m_is_address : List D → Option W := mkM 1 1 b_is_address
def b_held : Fs := sRet (pIf (bVal (pOp2 gIsN (pBv 0) (pC .non))) (pLst aNil) (pLc 0 (iSeq (pVar 0)) (.nm 1) [1] (bVal (pFn m_is_address [] (aCons (pBv 1) aNil))) (pVar 1)))
def m_held : List D → Option W := mkM 2 1 b_held
def b_met_cells : Fs := bSeq (sAsg 3 (pLst aNil)) (bSeq (sFor (iSeq (pVar 1)) (.nm 4) (sIf (bAnd (bVal (pFn m_is_address [] (aCons (pBv 4) aNil))) (bAnd (bVal (pOp2 (gIn true) (pBv 4) (pBv 3))) (bVal (pOp2 (gIn true) (pBv 4) (pBv 2))))) (sApp 3 (pVar 4)) bNil)) (bSeq (sAsg 5 (pC (.int 0))) (bSeq (sWhile 1000000 (bVal (pOp2 (gCmpI fun i j => decide (i < j)) (pBv 5) (pCall (on1 gLen) (aCons (pBv 3) aNil)))) (bSeq (sFor (iSeq (pFn m_held [] (aCons (pOp2 gIx (pBv 0) (pOp2 gIx (pBv 3) (pBv 5))) aNil))) (.nm 6) (sIf (bAnd (bVal (pOp2 (gIn true) (pBv 6) (pBv 3))) (bVal (pOp2 (gIn true) (pBv 6) (pBv 2)))) (sApp 3 (pVar 6)) bNil)) (sAug 5 gAddI (pC (.int 1))))) (sRet (pBv 3)))))
def m_met_cells : List D → Option W := mkM 7 3 b_met_cells
def b_reached_cells : Fs := bSeq (sAsgT (.tp [.nm 1, .nm 2]) (pBv 0)) (sRet (pCall (on1 gTupOf) (aCons (pCall (on1 gSorted) (aCons (pFn m_met_cells [.ktp []] (aCons (pBv 2) (aCons (pBv 1) aNil))) aNil)) aNil)))
def m_reached_cells : List D → Option W := mkM 3 1 b_reached_cells
def b_counts_of : Fs := bSeq (sAsgT (.tp [.nm 1, .nm 2]) (pBv 0)) (bSeq (sAsg 3 (pLc 0 (iSeq (pVar 1)) (.nm 5) [5] (bVal (pOp2 gNotN (pBv 5) (pC .non))) (pVar 5))) (bSeq (sFor (iSeq (pVar 2)) (.nm 4) (sExt 3 (pFn m_held [] (aCons (pBv 4) aNil)))) (sRet (pCall (on1 gTupOf) (aCons (pLc 0 (iEnum (pVar 2)) (.tp [.nm 6, .nm 4]) ([6, 4]) bYes (pIf (bVal (pOp2 gIsN (pBv 4) (pC .non))) (pC .non) (pOp2 gCount (pBv 3) (pBv 6)))) aNil)))))
def m_counts_of : List D → Option W := mkM 7 1 b_counts_of
def b_free_at_nought : Fs := sRet (pCall (on1 gTupOf) (aCons (pLc 0 (iZip (pVar 0) (pVar 1)) (.tp [.nm 2, .nm 3]) ([2, 3]) bYes (pIf (bVal (pOp2 gEq (pBv 3) (pC (.int 0)))) (pC .non) (pVar 2))) aNil))
def m_free_at_nought : List D → Option W := mkM 4 2 b_free_at_nought
def b_rings_freed : Fs := bSeq (sAsgT (.tp [.nm 1, .nm 2]) (pBv 0)) (bSeq (sAsg 3 (pFn m_reached_cells [] (aCons (pBv 0) aNil))) (bSeq (sAsg 4 (pCall (on1 gLstOf) (aCons (pFn m_counts_of [] (aCons (pBv 0) aNil)) aNil))) (bSeq (sFor (iEnum (pVar 2)) (.tp [.nm 5, .nm 6]) (sIf (bVal (pOp2 (gIn true) (pBv 5) (pBv 3))) (sFor (iSeq (pFn m_held [] (aCons (pBv 6) aNil))) (.nm 7) (sAugIx 4 (fun i j => i - j) (pBv 7) (pC (.int 1)))) bNil)) (sRet (pTup (aCons (pVar 1) (aCons (pFn m_free_at_nought [] (aCons (pBv 2) (aCons (pBv 4) aNil))) aNil)))))))
def m_rings_freed : List D → Option W := mkM 8 1 b_rings_freed
def b_law_field : Fs := bSeq (sAsg 2 (pOp2 gMod (pCall (on1 gInt) (aCons (pBv 0) aNil)) (pOp2 gAdd (pOp2 gMulI (pC (.int 2)) (pCall (on1 gLen) (aCons (pBv 1) aNil))) (pC (.int 3))))) (bSeq (sIf (bVal (pOp2 (gCmpI fun i j => decide (i < j)) (pBv 2) (pCall (on1 gLen) (aCons (pBv 1) aNil)))) (sRet (pOp2 gIx (pBv 1) (pBv 2))) bNil) (bSeq (sIf (bVal (pOp2 gEq (pBv 2) (pCall (on1 gLen) (aCons (pBv 1) aNil)))) (sRet (pC .non)) bNil) (sRet (pTup (aCons (pC (.str "num")) (aCons (pOp2 gSub (pOp2 gMod (pOp2 gFdiv (pCall (on1 gInt) (aCons (pBv 0) aNil)) (pC (.int 31))) (pC (.int 9))) (pC (.int 4))) aNil))))))
def m_law_field : List D → Option W := mkM 3 2 b_law_field
def b_law_heap : Fs := bSeq (sAsg 2 (pLc 0 (iRange1 (pBv 1)) (.nm 5) [5] bYes (pOp2 gMod (pCall (on1 gInt) (aCons (pOp2 gIx (pBv 0) (pBv 5)) aNil)) (pC (.int 10))))) (bSeq (sAsg 3 (pLc 0 (iRange1 (pBv 1)) (.nm 5) [5] (bVal (pOp2 (gCmpI fun i j => decide (j < i)) (pOp2 gIx (pBv 2) (pBv 5)) (pC (.int 1)))) (pVar 5))) (bSeq (sAsg 4 (pLst aNil)) (bSeq (sFor (iRange1 (pBv 1)) (.nm 5) (bSeq (sAsg 6 (pCall (on1 gTupOf) (aCons (pLc 0 (iRange1 (pOp2 gAdd (pC (.int 1)) (pOp2 gMod (pOp2 gIx (pBv 2) (pBv 5)) (pC (.int 4))))) (.nm 9) [9] bYes (pFn m_law_field [] (aCons (pOp2 gIx (pBv 0) (pOp2 gAdd (pOp2 gAdd (pC (.int 12)) (pOp2 gMulI (pC (.int 4)) (pBv 5))) (pBv 9))) (aCons (pBv 3) aNil)))) aNil))) (sApp 4 (pOp2 gIx (pTup (aCons (pC .non) (aCons (pVar 6) aNil))) (pCall (on1 gInt) (aCons (pOp2 (gCmpI fun i j => decide (j < i)) (pOp2 gIx (pBv 2) (pBv 5)) (pC (.int 1))) aNil)))))) (bSeq (sAsg 7 (pLst aNil)) (bSeq (sFor (iRange1 (pOp2 gMod (pCall (on1 gInt) (aCons (pOp2 gIx (pBv 0) (pC (.int 60))) aNil)) (pC (.int 5)))) (.nm 5) (bSeq (sAsg 8 (pOp2 gMod (pCall (on1 gInt) (aCons (pOp2 gIx (pBv 0) (pOp2 gAdd (pC (.int 61)) (pBv 5))) aNil)) (pOp2 gAdd (pCall (on1 gLen) (aCons (pBv 3) aNil)) (pC (.int 2))))) (sApp 7 (pOp2 gIx (pOp2 gAdd (pBv 3) (pLst (aCons (pC .non) (aCons (pC .non) aNil)))) (pBv 8))))) (sRet (pTup (aCons (pCall (on1 gTupOf) (aCons (pBv 7) aNil)) (aCons (pCall (on1 gTupOf) (aCons (pBv 4) aNil)) aNil)))))))))
def m_law_heap : List D → Option W := mkM 10 2 b_law_heap
def b_law_met : Fs := bSeq (sAsg 2 (pLst aNil)) (bSeq (sFor (iSeq (pVar 1)) (.nm 3) (sIf (bAnd (bVal (pOp2 gNotN (pBv 3) (pC .non))) (bVal (pOp2 (gIn true) (pBv 3) (pBv 2)))) (sApp 2 (pVar 3)) bNil)) (bSeq (sFor (iRange1 (pCall (on1 gLen) (aCons (pBv 0) aNil))) (.nm 4) (sIf (bVal (pOp2 (gCmpI fun i j => decide (i < j)) (pBv 4) (pCall (on1 gLen) (aCons (pBv 2) aNil)))) (sFor (iSeq (pFn m_law_held [] (aCons (pOp2 gIx (pBv 0) (pOp2 gIx (pBv 2) (pBv 4))) aNil))) (.nm 5) (sIf (bVal (pOp2 (gIn true) (pBv 5) (pBv 2))) (sApp 2 (pVar 5)) bNil)) bNil)) (sRet (pBv 2))))
def m_law_met : List D → Option W := mkM 6 2 b_law_met
def b_law_like (m : List D → Option W) : Fs := bSeq (sIf (bVal (pOp2 gIsN (pBv 1) (pC .non))) (sRet (pOp2 gIsN (pBv 0) (pC .non))) bNil) (bSeq (sIf (bVal (pIsi .bl (pBv 1))) (sRet (pAnd (pIsi .bl (pBv 0)) (pOp2 gEq (pBv 0) (pBv 1)))) bNil) (bSeq (sIf (bVal (pIsi .tup (pBv 1))) (bSeq (sIf (bOr (bNot (bVal (pIsi .tup (pBv 0)))) (bVal (pOp2 gNe (pCall (on1 gLen) (aCons (pBv 0) aNil)) (pCall (on1 gLen) (aCons (pBv 1) aNil))))) (sRet (pC (.bl false))) bNil) (sRet (pCall (on1 gAll) (aCons (pLc 0 (iRange1 (pCall (on1 gLen) (aCons (pBv 1) aNil))) (.nm 2) [2] bYes (pFn m [] (aCons (pOp2 gIx (pBv 0) (pBv 2)) (aCons (pOp2 gIx (pBv 1) (pBv 2)) aNil)))) aNil)))) bNil) (bSeq (sIf (bVal (pIsi .str (pBv 1))) (sRet (pAnd (pIsi .str (pBv 0)) (pOp2 gEq (pBv 0) (pBv 1)))) bNil) (sRet (pAnd (pFn m_law_is_int [] (aCons (pBv 0) aNil)) (pOp2 gEq (pBv 0) (pBv 1)))))))
def r_law_like : Nat → List D → Option W
  | 0 => fun _ => none
  | n + 1 => mkM 3 2 (b_law_like (r_law_like n))
def m_law_like : List D → Option W := r_law_like 6
def b_moved : Fs := bSeq (sAsgT (.tp [.nm 2, .nm 3]) (pBv 0)) (bSeq (sAsg 4 (pDc (iEnum (pVar 1)) (.tp [.nm 6, .nm 7]) ([6, 7]) bYes (pVar 7) (pVar 6))) (bSeq (sAsg 5 (pLc 0 (iSeq (pVar 1)) (.nm 7) [7] bYes (pCall (on1 gTupOf) (aCons (pLc 0 (iSeq (pOp2 gIx (pBv 3) (pBv 7))) (.nm 8) [8] bYes (pIf (bVal (pFn m_is_address [] (aCons (pBv 8) aNil))) (pOp2 gDGet (pBv 4) (pBv 8)) (pVar 8))) aNil)))) (sRet (pTup (aCons (pCall (on1 gTupOf) (aCons (pLc 0 (iSeq (pVar 2)) (.nm 9) [9] bYes (pIf (bVal (pOp2 gIsN (pBv 9) (pC .non))) (pC .non) (pOp2 gDGet (pBv 4) (pBv 9)))) aNil)) (aCons (pCall (on1 gTupOf) (aCons (pBv 5) aNil)) aNil))))))
def m_moved : List D → Option W := mkM 10 2 b_moved
def b_copied_heap : Fs := bSeq (sAsgT (.tp [.nm 1, .nm 2]) (pBv 0)) (sRet (pFn m_moved [] (aCons (pBv 0) (aCons (pFn m_met_cells [.ktp []] (aCons (pBv 2) (aCons (pBv 1) aNil))) aNil))))
def m_copied_heap : List D → Option W := mkM 3 1 b_copied_heap
def b_same_heap : Fs := bSeq (sIf (bVal (pOp2 gNe (pCall (on1 gLen) (aCons (pOp2 gIx (pBv 0) (pC (.int 0))) aNil)) (pCall (on1 gLen) (aCons (pOp2 gIx (pBv 1) (pC (.int 0))) aNil)))) (sRet (pC (.bl false))) bNil) (bSeq (sAsg 2 (pDNew 0 false)) (bSeq (sAsg 3 (pDNew 0 false)) (bSeq (sAsg 4 (pLstZip (pOp2 gIx (pBv 0) (pC (.int 0))) (pOp2 gIx (pBv 1) (pC (.int 0))))) (bSeq (sWhile 1000000 (bTru (pBv 4)) (bSeq (sPopT 4 (.tp [.nm 5, .nm 6])) (sIf (bOr (bNot (bVal (pFn m_is_address [] (aCons (pBv 5) aNil)))) (bNot (bVal (pFn m_is_address [] (aCons (pBv 6) aNil))))) (sIf (bVal (pOp2 gNe (pBv 5) (pBv 6))) (sRet (pC (.bl false))) bNil) (sIf (bOr (bVal (pOp2 (gDIn false) (pBv 5) (pBv 2))) (bVal (pOp2 (gDIn false) (pBv 6) (pBv 3)))) (sIf (bOr (bVal (pOp2 gNe (pOp2 gDGet1 (pBv 2) (pBv 5)) (pBv 6))) (bVal (pOp2 gNe (pOp2 gDGet1 (pBv 3) (pBv 6)) (pBv 5)))) (sRet (pC (.bl false))) bNil) (bSeq (sPut 2 (pBv 5) (pVar 6)) (bSeq (sPut 3 (pBv 6) (pVar 5)) (bSeq (sPar [7, 8] (aCons (pOp2 gIx (pOp2 gIx (pBv 0) (pC (.int 1))) (pBv 5)) (aCons (pOp2 gIx (pOp2 gIx (pBv 1) (pC (.int 1))) (pBv 6)) aNil))) (bSeq (sIf (bVal (pOp2 gNe (pCall (on1 gLen) (aCons (pBv 7) aNil)) (pCall (on1 gLen) (aCons (pBv 8) aNil)))) (sRet (pC (.bl false))) bNil) (sExt 4 (pLstZip (pVar 7) (pVar 8))))))))))) (sRet (pC (.bl true)))))))
def m_same_heap : List D → Option W := mkM 9 2 b_same_heap
def b_rings_left : Fs := bSeq (sAsg 1 (pFn m_reached_cells [] (aCons (pBv 0) aNil))) (bSeq (sAsg 2 (pFn m_counts_of [] (aCons (pBv 0) aNil))) (sRet (pCall (on1 gTupOf) (aCons (pLc 0 (iEnum (pVar 2)) (.tp [.nm 3, .nm 4]) ([3, 4]) (bAnd (bVal (pOp2 gNotN (pBv 4) (pC .non))) (bAnd (bVal (pOp2 (gCmpI fun i j => decide (j < i)) (pBv 4) (pC (.int 0)))) (bVal (pOp2 (gIn true) (pBv 3) (pBv 1))))) (pVar 3)) aNil))))
def m_rings_left : List D → Option W := mkM 5 1 b_rings_left
def b_marked_swept : Fs := bSeq (sAsgT (.tp [.nm 1, .nm 2]) (pBv 0)) (bSeq (sAsg 3 (pFn m_met_cells [.ktp []] (aCons (pBv 2) (aCons (pBv 1) aNil)))) (sRet (pTup (aCons (pVar 1) (aCons (pCall (on1 gTupOf) (aCons (pLc 0 (iEnum (pVar 2)) (.tp [.nm 4, .nm 5]) ([4, 5]) bYes (pIf (bVal (pOp2 (gIn false) (pBv 4) (pBv 3))) (pVar 5) (pC .non))) aNil)) aNil)))))
def m_marked_swept : List D → Option W := mkM 6 1 b_marked_swept
def b_law_rings : Fs := bSeq (sPar [1, 2] (aCons (pFn m_law_met [] (aCons (pOp2 gIx (pBv 0) (pC (.int 1))) (aCons (pOp2 gIx (pBv 0) (pC (.int 0))) aNil))) (aCons (pFn m_law_counts [] (aCons (pBv 0) aNil)) aNil))) (bSeq (sIf (bOr (bNot (bVal (pFn m_law_like [] (aCons (pFn m_counts_of [] (aCons (pBv 0) aNil)) (aCons (pCall (on1 gTupOf) (aCons (pBv 2) aNil)) aNil))))) (bNot (bVal (pFn m_law_like [] (aCons (pFn m_reached_cells [] (aCons (pBv 0) aNil)) (aCons (pCall (on1 gTupOf) (aCons (pCall (on1 gSorted) (aCons (pBv 1) aNil)) aNil)) aNil)))))) (sRet (pC (.bl false))) bNil) (bSeq (sAsg 3 (pLc 0 (iRange1 (pCall (on1 gLen) (aCons (pBv 2) aNil))) (.nm 5) [5] (bAnd (bVal (pOp2 gNotN (pOp2 gIx (pBv 2) (pBv 5)) (pC .non))) (bVal (pOp2 (gIn true) (pBv 5) (pBv 1)))) (pVar 5))) (bSeq (sAsg 4 (pTup (aCons (pOp2 gIx (pBv 0) (pC (.int 0))) (aCons (pCall (on1 gTupOf) (aCons (pLc 0 (iRange1 (pCall (on1 gLen) (aCons (pBv 2) aNil))) (.nm 5) [5] bYes (pOp2 gIx (pTup (aCons (pC .non) (aCons (pOp2 gIx (pOp2 gIx (pBv 0) (pC (.int 1))) (pBv 5)) aNil))) (pCall (on1 gInt) (aCons (pOp2 (gIn false) (pBv 5) (pBv 1)) aNil)))) aNil)) aNil)))) (bSeq (sIf (bOr (bNot (bVal (pFn m_law_like [] (aCons (pFn m_rings_left [] (aCons (pBv 0) aNil)) (aCons (pCall (on1 gTupOf) (aCons (pBv 3) aNil)) aNil))))) (bNot (bVal (pFn m_law_like [] (aCons (pFn m_rings_freed [] (aCons (pBv 0) aNil)) (aCons (pBv 4) aNil)))))) (sRet (pC (.bl false))) bNil) (bSeq (sIf (bOr (bNot (bVal (pFn m_law_like [] (aCons (pFn m_marked_swept [] (aCons (pBv 0) aNil)) (aCons (pBv 4) aNil))))) (bNot (bVal (pFn m_law_like [] (aCons (pFn m_counts_of [] (aCons (pBv 4) aNil)) (aCons (pCall (on1 gTupOf) (aCons (pFn m_law_counts [] (aCons (pBv 4) aNil)) aNil)) aNil)))))) (sRet (pC (.bl false))) bNil) (bSeq (sIf (bOr (bNot (bVal (pFn m_law_like [] (aCons (pFn m_rings_left [] (aCons (pBv 4) aNil)) (aCons (pTup aNil) aNil))))) (bNot (bVal (pFn m_law_like [] (aCons (pFn m_rings_freed [] (aCons (pBv 4) aNil)) (aCons (pBv 4) aNil)))))) (sRet (pC (.bl false))) bNil) (sRet (pAnd (pOp2 gEq (pFn m_copied_heap [] (aCons (pBv 0) aNil)) (pFn m_copied_heap [] (aCons (pBv 4) aNil))) (pOp2 gIsA (pFn m_same_heap [] (aCons (pBv 0) (aCons (pBv 4) aNil))) (pC (.bl true)))))))))))
def m_law_rings : List D → Option W := mkM 6 1 b_law_rings
def b_counted_free : Fs := bSeq (sAsg 2 (pOp2 gAdd (pOp2 gAdd (pSl (pOp2 gIx (pBv 0) (pC (.int 0))) oNone (oSome (pBv 1))) (pTup (aCons (pC .non) aNil))) (pSl (pOp2 gIx (pBv 0) (pC (.int 0))) (oSome (pOp2 gAdd (pBv 1) (pC (.int 1)))) oNone))) (bSeq (sAsg 3 (pOp2 gIx (pBv 0) (pC (.int 1)))) (bSeq (sAsg 4 (pFn m_counts_of [] (aCons (pTup (aCons (pVar 2) (aCons (pVar 3) aNil))) aNil))) (bSeq (sWhile 1000000 (bVal (pOp2 (gIn false) (pC (.int 0)) (pBv 4))) (bSeq (sAsg 3 (pFn m_free_at_nought [] (aCons (pBv 3) (aCons (pBv 4) aNil)))) (sAsg 4 (pFn m_counts_of [] (aCons (pTup (aCons (pVar 2) (aCons (pVar 3) aNil))) aNil))))) (sRet (pTup (aCons (pVar 2) (aCons (pVar 3) aNil)))))))
def m_counted_free : List D → Option W := mkM 5 2 b_counted_free
def b_is_number : Fs := sRet (pAnd (pIsi .int (pBv 0)) (pNot (pIsi .bl (pBv 0))))
def m_is_number : List D → Option W := mkM 1 1 b_is_number
def b_is_link : Fs := bSeq (sIf (bVal (pOp2 gIsN (pBv 1) (pC .non))) (sRet (pC (.bl true))) bNil) (sRet (pAnd (pFn m_is_number [] (aCons (pBv 1) aNil)) (pAnd (pChain (gCmpI fun i j => decide (i ≤ j)) (gCmpI fun i j => decide (i < j)) (pC (.int 0)) (pBv 1) (pCall (on1 gLen) (aCons (pBv 0) aNil))) (pOp2 gNotN (pOp2 gIx (pBv 0) (pBv 1)) (pC .non)))))
def m_is_link : List D → Option W := mkM 2 2 b_is_link
def b_is_field : Fs := bSeq (sIf (bVal (pIsi .tup (pBv 1))) (sRet (pAnd (pOp2 gEq (pCall (on1 gLen) (aCons (pBv 1) aNil)) (pC (.int 2))) (pAnd (pOp2 gEq (pOp2 gIx (pBv 1) (pC (.int 0))) (pC (.str "num"))) (pFn m_is_number [] (aCons (pOp2 gIx (pBv 1) (pC (.int 1))) aNil))))) bNil) (sRet (pFn m_is_link [] (aCons (pBv 0) (aCons (pBv 1) aNil))))
def m_is_field : List D → Option W := mkM 2 2 b_is_field
def b_is_cell : Fs := bSeq (sIf (bVal (pOp2 gIsN (pBv 1) (pC .non))) (sRet (pC (.bl true))) bNil) (bSeq (sIf (bOr (bNot (bVal (pIsi .tup (pBv 1)))) (bNot (bVal (pChain (gCmpI fun i j => decide (i ≤ j)) (gCmpI fun i j => decide (i ≤ j)) (pC (.int 1)) (pCall (on1 gLen) (aCons (pBv 1) aNil)) (pC (.int 4)))))) (sRet (pC (.bl false))) bNil) (sRet (pCall (on1 gAll) (aCons (pLc 0 (iSeq (pVar 1)) (.nm 2) [2] bYes (pFn m_is_field [] (aCons (pBv 0) (aCons (pBv 2) aNil)))) aNil))))
def m_is_cell : List D → Option W := mkM 3 2 b_is_cell
def b_is_heap : Fs := bSeq (sIf (bOr (bNot (bVal (pIsi .tup (pBv 0)))) (bVal (pOp2 gNe (pCall (on1 gLen) (aCons (pBv 0) aNil)) (pC (.int 2))))) (sRet (pC (.bl false))) bNil) (bSeq (sAsgT (.tp [.nm 1, .nm 2]) (pBv 0)) (bSeq (sIf (bOr (bNot (bVal (pIsi .tup (pBv 1)))) (bVal (pOp2 (gCmpI fun i j => decide (j < i)) (pCall (on1 gLen) (aCons (pBv 1) aNil)) (pC (.int 4))))) (sRet (pC (.bl false))) bNil) (bSeq (sIf (bOr (bNot (bVal (pIsi .tup (pBv 2)))) (bVal (pOp2 (gCmpI fun i j => decide (j < i)) (pCall (on1 gLen) (aCons (pBv 2) aNil)) (pC (.int 12))))) (sRet (pC (.bl false))) bNil) (bSeq (sIf (bNot (bVal (pCall (on1 gAll) (aCons (pLc 0 (iSeq (pVar 1)) (.nm 3) [3] bYes (pFn m_is_link [] (aCons (pBv 2) (aCons (pBv 3) aNil)))) aNil)))) (sRet (pC (.bl false))) bNil) (sRet (pCall (on1 gAll) (aCons (pLc 0 (iSeq (pVar 2)) (.nm 4) [4] bYes (pFn m_is_cell [] (aCons (pBv 2) (aCons (pBv 4) aNil)))) aNil)))))))
def m_is_heap : List D → Option W := mkM 5 1 b_is_heap
def b_law : Fs := bSeq (sAsg 1 (pFn m_law_row [] (aCons (pBv 0) (aCons (pC (.int 74)) aNil)))) (bSeq (sAsg 2 (pFn m_law_ringed [] (aCons (pBv 1) (aCons (pFn m_law_heap [] (aCons (pBv 1) (aCons (pOp2 gAdd (pC (.int 2)) (pOp2 gMod (pCall (on1 gInt) (aCons (pOp2 gIx (pBv 1) (pC (.int 72))) aNil)) (pC (.int 8)))) aNil))) aNil)))) (bSeq (sAsg 3 (pFn m_law_freed [] (aCons (pBv 2) aNil))) (bSeq (sIf (bOr (bNot (bVal (pFn m_law_like [] (aCons (pFn m_is_heap [] (aCons (pBv 2) aNil)) (aCons (pC (.bl true)) aNil))))) (bNot (bVal (pFn m_law_like [] (aCons (pFn m_counts_of [] (aCons (pBv 2) aNil)) (aCons (pCall (on1 gTupOf) (aCons (pFn m_law_counts [] (aCons (pBv 2) aNil)) aNil)) aNil)))))) (sRet (pC (.bl false))) bNil) (bSeq (sIf (bNot (bVal (pFn m_law_rings [] (aCons (pBv 3) aNil)))) (sRet (pC (.bl false))) bNil) (bSeq (sAsg 4 (pCall (on1 gLen) (aCons (pOp2 gIx (pBv 3) (pC (.int 0))) aNil))) (bSeq (sPar [5, 6] (aCons (pOp2 gMod (pCall (on1 gInt) (aCons (pOp2 gIx (pBv 1) (pC (.int 70))) aNil)) (pOp2 gAdd (pBv 4) (pC (.int 1)))) (aCons (pOp2 gAdd (pC (.int 1)) (pOp2 gMulI (pC (.int 2)) (pOp2 gMod (pCall (on1 gInt) (aCons (pOp2 gIx (pBv 1) (pC (.int 71))) aNil)) (pC (.int 2))))) aNil))) (bSeq (sFor (iRange1 (pBv 4)) (.nm 7) (bSeq (sAsg 8 (pOp2 gMod (pCall (on1 gInt) (aCons (pOp2 gAdd (pBv 5) (pOp2 gMulI (pBv 6) (pBv 7))) aNil)) (pBv 4))) (bSeq (sIf (bVal (pOp2 gEq (pBv 4) (pC (.int 3)))) (sAsg 8 (pOp2 gMod (pCall (on1 gInt) (aCons (pOp2 gAdd (pBv 5) (pBv 7)) aNil)) (pBv 4))) bNil) (bSeq (sAsg 9 (pFn m_counted_free [] (aCons (pBv 3) (aCons (pBv 8) aNil)))) (bSeq (sAsg 3 (pFn m_law_freed [] (aCons (pTup (aCons (pOp2 gAdd (pOp2 gAdd (pSl (pOp2 gIx (pBv 3) (pC (.int 0))) oNone (oSome (pBv 8))) (pTup (aCons (pC .non) aNil))) (pSl (pOp2 gIx (pBv 3) (pC (.int 0))) (oSome (pOp2 gAdd (pBv 8) (pC (.int 1)))) oNone)) (aCons (pOp2 gIx (pBv 3) (pC (.int 1))) aNil))) aNil))) (sIf (bOr (bNot (bVal (pFn m_law_like [] (aCons (pBv 9) (aCons (pBv 3) aNil))))) (bNot (bVal (pFn m_law_rings [] (aCons (pBv 3) aNil))))) (sRet (pC (.bl false))) bNil)))))) (bSeq (sAsg 10 (pCall (on1 gTupOf) (aCons (pLc 0 (iRange1 (pCall (on1 gLen) (aCons (pOp2 gIx (pBv 3) (pC (.int 1))) aNil))) (.nm 8) [8] (bVal (pOp2 gNotN (pOp2 gIx (pOp2 gIx (pBv 3) (pC (.int 1))) (pBv 8)) (pC .non))) (pVar 8)) aNil))) (bSeq (sAsg 11 (pFn m_rings_freed [] (aCons (pBv 3) aNil))) (sRet (pAnd (pFn m_law_like [] (aCons (pFn m_rings_left [] (aCons (pBv 3) aNil)) (aCons (pBv 10) aNil))) (pFn m_law_like [] (aCons (pBv 11) (aCons (pTup (aCons (pOp2 gMulN (pTup (aCons (pC .non) aNil)) (pBv 4)) (aCons (pOp2 gMulN (pTup (aCons (pC .non) aNil)) (pCall (on1 gLen) (aCons (pOp2 gIx (pBv 3) (pC (.int 1))) aNil))) aNil))) aNil))))))))))))))
def m_law : List D → Option W := mkM 12 1 b_law
end K36
set_option Elab.async false
set_option linter.all false
set_option maxRecDepth 100000
/-! H1: heaps of cells; what is come to -/
namespace HP
open PySem L2 Pv
inductive Fd where
  | no | ln (n : Nat) | nu (i : Int)
deriving DecidableEq
def Fd.d : Fd → D
  | .no => .non | .ln n => .int (n : Int) | .nu i => .tup [.str "num", .int i]
def Fd.isLn : Fd → Bool
  | .ln _ => true | _ => false
abbrev Cell := Option (List Fd)
def cd : Cell → D
  | none => .non | some fs => .tup (fs.map Fd.d)
structure Hx where
  rs : List Fd
  n : Nat
  c : Nat → Cell
def Hx.cds (h : Hx) : D := .tup ((List.range h.n).map fun i => cd (h.c i))
def Hx.d (h : Hx) : D := .tup [.tup (h.rs.map Fd.d), h.cds]
section
variable {h : Hx} {k l a : Nat}
theorem cds_d : h.cds = .tup ((List.range h.n).map fun i => cd (h.c i)) := rfl
theorem ix_cds (ha : a < h.n) : gIx (k, h.cds) (l, .int (a : Nat)) = some (0, cd (h.c a)) := by
  rw [cds_d, ix_t, atI_n]
  simp [ha]
@[simp] theorem len_cds : gLen (k, h.cds) = some (0, .int (h.n : Nat)) := by rw [cds_d, len_t]; simp
@[simp] theorem seq_cds : seqD h.cds = some (false, (List.range h.n).map fun i => cd (h.c i)) := rfl
@[simp] theorem box_cds : isBox h.cds = false := rfl
@[simp] theorem isN_cds : isNon h.cds = false := rfl
end
def addrs (fs : List Fd) : List Nat := fs.filterMap fun f => match f with | .ln n => some n | _ => none
def held : Cell → List Nat
  | none => [] | some fs => addrs fs
@[simp] theorem Fd.d_no : Fd.d .no = .non := rfl
@[simp] theorem Fd.d_ln {n : Nat} : Fd.d (.ln n) = .int (n : Int) := rfl
@[simp] theorem Fd.d_nu {i : Int} : Fd.d (.nu i) = .tup [.str "num", .int i] := rfl
@[simp] theorem cd_n : cd none = .non := rfl
@[simp] theorem cd_s {fs : List Fd} : cd (some fs) = .tup (fs.map Fd.d) := rfl
@[simp] theorem addrs_nil : addrs [] = [] := rfl
@[simp] theorem addrs_no {fs : List Fd} : addrs (.no :: fs) = addrs fs := rfl
@[simp] theorem addrs_nu {i : Int} {fs : List Fd} : addrs (.nu i :: fs) = addrs fs := rfl
@[simp] theorem addrs_ln {n : Nat} {fs : List Fd} : addrs (.ln n :: fs) = n :: addrs fs := rfl
theorem addrs_app (xs ys : List Fd) : addrs (xs ++ ys) = addrs xs ++ addrs ys := List.filterMap_append
theorem addrs_len (xs : List Fd) : (addrs xs).length ≤ xs.length := List.length_filterMap_le _ _
theorem mem_addrs {xs : List Fd} {n : Nat} : n ∈ addrs xs ↔ .ln n ∈ xs := by
  induction xs with
  | nil => simp
  | cons x xs ih => cases x <;> simp [ih]
theorem filt_ln : ∀ fs : List Fd, (fs.filter Fd.isLn).map Fd.d = (addrs fs).map IN
  | [] => rfl
  | .no :: fs => by simp [Fd.isLn, filt_ln fs]
  | .nu i :: fs => by simp [Fd.isLn, filt_ln fs]
  | .ln n :: fs => by
    rw [List.filter_cons_of_pos rfl, List.map_cons, filt_ln fs]; rfl
@[simp] theorem is_address (f : Fd) : K36.m_is_address [f.d] = some (0, .bl f.isLn) := by cases f <;> rfl
@[simp] theorem law_is_int (f : Fd) : K36.m_law_is_int [f.d] = some (0, .bl f.isLn) := by cases f <;> rfl
@[simp] theorem ia_n : K36.m_is_address [.non] = some (0, .bl false) := rfl
@[simp] theorem ia_i (i : Int) : K36.m_is_address [.int i] = some (0, .bl true) := rfl
@[simp] theorem ia_t (t : List D) : K36.m_is_address [.tup t] = some (0, .bl false) := rfl
@[simp] theorem li_n : K36.m_law_is_int [.non] = some (0, .bl false) := rfl
@[simp] theorem li_i (i : Int) : K36.m_law_is_int [.int i] = some (0, .bl true) := rfl
@[simp] theorem li_t (t : List D) : K36.m_law_is_int [.tup t] = some (0, .bl false) := rfl
def Sz (c : Cell) : Prop := ∀ fs, c = some fs → 1 ≤ fs.length ∧ fs.length ≤ 4
theorem held_run (c : Cell) (hz : Sz c) : K36.m_held [cd c] = some (1, .lst ((held c).map IN)) := by
  refine def_of rfl (clean_IN _) fun Q hQ => ?_
  unfold K36.b_held
  cases c with
  | none => simp; exact hQ _
  | some fs =>
    have hl : fs.length ≤ 1000000 := by have := (hz fs rfl).2; omega
    simp [hl]
    rw [comp_fm Fd.isLn Fd.d]
    · simp [filt_ln]; exact hQ _
    · intro a ha; simp
theorem law_held_run (c : Cell) (hz : Sz c) : K36.m_law_held [cd c] = some (1, .lst ((held c).map IN)) := by
  refine def_of rfl (clean_IN _) fun Q hQ => ?_
  unfold K36.b_law_held
  cases c with
  | none => simp; exact hQ _
  | some fs =>
    have hl : fs.length ≤ 1000000 := by have := (hz fs rfl).2; omega
    simp [hl]
    rw [comp_fm Fd.isLn Fd.d]
    · simp [filt_ln]; exact hQ _
    · intro a ha; simp
/-! what is come to -/
def addNew (met as : List Nat) : List Nat := as.foldl (fun m a => if a ∈ m then m else m ++ [a]) met
@[simp] theorem addNew_nil {met : List Nat} : addNew met [] = met := rfl
theorem addNew_app (met as : List Nat) (a : Nat) : addNew met (as ++ [a]) = if a ∈ addNew met as then addNew met as else addNew met as ++ [a] := by
  unfold addNew; rw [List.foldl_append]; rfl
theorem addNew_cons (met as : List Nat) (a : Nat) : addNew met (a :: as) = addNew (if a ∈ met then met else met ++ [a]) as := rfl
def walk (at' : Nat → Cell) : Nat → Nat → List Nat → List Nat
  | 0, _, met => met
  | n + 1, t, met => walk at' n (t + 1) (if t < met.length then addNew met (held (at' (met[t]?.getD 0))) else met)
def met0 (rs : List Fd) : List Nat := addNew [] (addrs rs)
def Hx.met (h : Hx) : List Nat := walk h.c h.n 0 (met0 h.rs)
def live (h : Hx) (a : Nat) : Prop := a < h.n ∧ ∃ fs, h.c a = some fs
structure Ok (h : Hx) : Prop where
  rl : ∀ a, Fd.ln a ∈ h.rs → live h a
  rn : ∀ i, Fd.nu i ∉ h.rs
  cl : ∀ i fs, i < h.n → h.c i = some fs → ∀ a, Fd.ln a ∈ fs → live h a
  sz : ∀ i, i < h.n → Sz (h.c i)
  nr : h.rs.length ≤ 4
  nc : h.n ≤ 12
  ou : ∀ i, h.n ≤ i → h.c i = none
theorem addNew_mem {as : List Nat} : ∀ {met : List Nat} {x : Nat}, x ∈ addNew met as ↔ x ∈ met ∨ x ∈ as := by
  induction as with
  | nil => intro met x; simp
  | cons a as ih =>
    intro met x
    rw [addNew_cons, ih]
    by_cases h : a ∈ met
    · rw [if_pos h]
      simp only [List.mem_cons]
      constructor
      · rintro (h1 | h1); exact .inl h1; exact .inr (.inr h1)
      · rintro (h1 | h1 | h1); exact .inl h1; exact .inl (h1 ▸ h); exact .inr h1
    · rw [if_neg h]
      simp only [List.mem_append, List.mem_cons, List.not_mem_nil, or_false]
      exact or_assoc
theorem addNew_nodup {as : List Nat} : ∀ {met : List Nat}, met.Nodup → (addNew met as).Nodup := by
  induction as with
  | nil => intro met h; exact h
  | cons a as ih =>
    intro met h
    rw [addNew_cons]
    by_cases ha : a ∈ met
    · rw [if_pos ha]; exact ih h
    · rw [if_neg ha]
      refine ih (List.nodup_append.mpr ⟨h, by simp, fun x hx y hy e => ?_⟩)
      simp at hy
      exact ha (by rw [← hy, ← e]; exact hx)
theorem addNew_pre {as : List Nat} : ∀ {met : List Nat}, ∃ more, addNew met as = met ++ more := by
  induction as with
  | nil => intro met; exact ⟨[], by simp⟩
  | cons a as ih =>
    intro met
    rw [addNew_cons]
    by_cases ha : a ∈ met
    · rw [if_pos ha]; exact ih
    · rw [if_neg ha]
      obtain ⟨more, h⟩ := ih (met := met ++ [a])
      exact ⟨a :: more, by rw [h]; simp⟩
theorem nodup_le : ∀ {n : Nat} {met : List Nat}, met.Nodup → (∀ a ∈ met, a < n) → met.length ≤ n
  | 0, met, h, hl => by
    cases met with
    | nil => exact Nat.le_refl _
    | cons a m => exact absurd (hl a List.mem_cons_self) (Nat.not_lt_zero _)
  | n + 1, met, h, hl => by
    have h1 := nodup_le (n := n) (met := met.erase n) (h.erase n) fun a ha => by
      have h2 := (List.Nodup.mem_erase_iff h).mp ha
      have := hl a h2.2
      have := h2.1
      omega
    have h2 := List.length_erase (a := n) (l := met)
    by_cases hn : n ∈ met
    · rw [if_pos hn] at h2; omega
    · rw [if_neg hn] at h2; omega
theorem walk_end {cs : Nat → Cell} : ∀ {n t : Nat} {met : List Nat}, met.length ≤ t → walk cs n t met = met
  | 0, _, _, _ => rfl
  | n + 1, t, met, h => by
    unfold walk
    rw [if_neg (by omega)]
    exact walk_end (by omega)
theorem held_live {h : Hx} (ok : Ok h) {a b : Nat} (ha : a < h.n) (hb : b ∈ held (h.c a)) : live h b := by
  cases hc : h.c a with
  | none => rw [hc] at hb; cases hb
  | some fs => rw [hc] at hb; exact ok.cl a fs ha hc b (mem_addrs.mp hb)
theorem held_len {h : Hx} (ok : Ok h) {a : Nat} (ha : a < h.n) : (held (h.c a)).length ≤ 4 := by
  cases hc : h.c a with
  | none => simp [held]
  | some fs =>
    have := (ok.sz a ha fs hc).2
    have := addrs_len fs
    simp [held]
    omega
theorem met0_live {h : Hx} (ok : Ok h) : ∀ a ∈ met0 h.rs, live h a := fun a ha => by
  rcases addNew_mem.mp ha with h1 | h1
  · cases h1
  · exact ok.rl a (mem_addrs.mp h1)
theorem met0_nodup (rs : List Fd) : (met0 rs).Nodup := addNew_nodup List.nodup_nil
theorem roots_len {h : Hx} (ok : Ok h) {pre post : List Fd} {a : Fd} (hp : h.rs = pre ++ a :: post) : (addNew [] (addrs pre)).length < 1000000 := by
  have h12 := ok.nc
  have h1 := nodup_le (n := h.n) (addNew_nodup (as := addrs pre) List.nodup_nil) fun b hb => by
    rcases addNew_mem.mp hb with h1 | h1
    · cases h1
    · exact (ok.rl b (by rw [hp]; exact List.mem_append_left _ (mem_addrs.mp h1))).1
  omega
theorem add_len {h : Hx} (ok : Ok h) {met : List Nat} (nd : met.Nodup) (lv : ∀ a ∈ met, live h a) {a : Nat} (ha : a < h.n) {pre post : List Nat} {b : Nat} (hp : held (h.c a) = pre ++ b :: post) : (addNew met pre).length < 1000000 := by
  have h12 := ok.nc
  have h1 := nodup_le (n := h.n) (addNew_nodup (as := pre) nd) fun b hb => by
    rcases addNew_mem.mp hb with h1 | h1
    · exact (lv b h1).1
    · exact (held_live ok ha (by rw [hp]; exact List.mem_append_left _ h1)).1
  omega
theorem met_cells_run {h : Hx} (ok : Ok h) : K36.m_met_cells [h.cds, .tup (h.rs.map Fd.d), .ktp []] = some (1, .lst (h.met.map IN)) := by
  refine def_of rfl (clean_IN _) fun Q hQ => ?_
  unfold K36.b_met_cells
  have h4 := ok.nr
  have h12 := ok.nc
  simp
  refine wp_for (inj := Fd.d) h.rs (fun pre ρ => ∃ x, ρ = [some (0, h.cds), some (0, .tup (h.rs.map Fd.d)), some (0, .ktp []), some (1, .lst ((addNew [] (addrs pre)).map IN)), x, none, none]) rfl ⟨none, rfl⟩ ?_ ?_
  · rintro pre a post ρ hp ⟨x, rfl⟩
    have hlen := roots_len ok hp
    cases a with
    | no => simp [Fd.isLn, addrs_app]
    | nu i => simp [Fd.isLn, addrs_app]
    | ln n =>
      rw [addrs_app, addrs_ln, addrs_nil, addNew_app]
      by_cases hn : n ∈ addNew [] (addrs pre)
      · simp [Fd.isLn, hn]
      · simp [Fd.isLn, hn, Pv.big, hlen]
  · rintro ρ ⟨x, rfl⟩
    simp
    refine wp_while (fun m ρ => ∃ (t : Nat) (met : List Nat) (y : Option W), m = h.n - t ∧ met.Nodup ∧ (∀ a ∈ met, live h a) ∧ walk h.c m t met = h.met ∧ ρ = [some (0, h.cds), some (0, .tup (h.rs.map Fd.d)), some (0, .ktp []), some (1, .lst (met.map IN)), x, some (0, .int (t : Int)), y]) ⟨0, met0 h.rs, none, rfl, met0_nodup _, met0_live ok, rfl, rfl⟩ (by omega) ?_
    rintro m ρ ⟨t, met, y, rfl, nd, lv, hw, rfl⟩
    have hml : met.length ≤ h.n := nodup_le nd fun a ha => (lv a ha).1
    by_cases ht : t < met.length
    · have ha : met[t]? = some met[t] := List.getElem?_eq_getElem ht
      obtain ⟨hlt, fs, hfs⟩ := lv met[t] (List.getElem_mem ht)
      have hr := held_run (h.c met[t]) (ok.sz _ hlt)
      have hl4 := held_len ok hlt
      have e1 : h.n - t = (h.n - (t + 1)) + 1 := by omega
      rw [e1] at hw
      unfold walk at hw
      rw [if_pos ht, ha, Option.getD_some] at hw
      simp [ht, ha, ix_cds hlt, hr]
      refine wp_for (inj := IN) (held (h.c met[t])) (fun pre ρ => ∃ y, ρ = [some (0, h.cds), some (0, .tup (h.rs.map Fd.d)), some (0, .ktp []), some (1, .lst ((addNew met pre).map IN)), x, some (0, .int (t : Int)), y]) rfl ⟨y, rfl⟩ ?_ ?_
      · rintro pre a post ρ hp ⟨y, rfl⟩
        have hlen := add_len ok nd lv hlt hp
        rw [addNew_app]
        by_cases hn : a ∈ addNew met pre
        · simp [hn]
        · simp [hn, Pv.big, hlen]
      · rintro ρ ⟨y, rfl⟩
        simp
        refine ⟨h.n - (t + 1), by omega, t + 1, by omega, addNew met (held (h.c met[t])), addNew_nodup nd, fun b hb => ?_, hw, rfl, rfl⟩
        rcases addNew_mem.mp hb with h1 | h1
        · exact lv b h1
        · exact held_live ok hlt h1
    · rw [walk_end (by omega)] at hw
      subst hw
      simp [ht]
      exact hQ _
theorem law_met_run {h : Hx} (ok : Ok h) : K36.m_law_met [h.cds, .tup (h.rs.map Fd.d)] = some (1, .lst (h.met.map IN)) := by
  refine def_of rfl (clean_IN _) fun Q hQ => ?_
  unfold K36.b_law_met
  have h4 := ok.nr
  have h12 := ok.nc
  have h12' : h.n ≤ 1000000000 := by omega
  simp
  refine wp_for (inj := Fd.d) h.rs (fun pre ρ => ∃ x, ρ = [some (0, h.cds), some (0, .tup (h.rs.map Fd.d)), some (1, .lst ((addNew [] (addrs pre)).map IN)), x, none, none]) rfl ⟨none, rfl⟩ ?_ ?_
  · rintro pre a post ρ hp ⟨x, rfl⟩
    have hlen := roots_len ok hp
    cases a with
    | no => simp [addrs_app]
    | nu i => exact absurd (by rw [hp]; simp) (ok.rn i)
    | ln n =>
      rw [addrs_app, addrs_ln, addrs_nil, addNew_app]
      by_cases hn : n ∈ addNew [] (addrs pre)
      · simp [hn]
      · simp [hn, Pv.big, hlen]
  · rintro ρ ⟨x, rfl⟩
    simp [h12']
    refine wp_range h.n (fun t ρ => ∃ (met : List Nat) (x y z : Option W), met.Nodup ∧ (∀ a ∈ met, live h a) ∧ walk h.c (h.n - t) t met = h.met ∧ ρ = [some (0, h.cds), some (0, .tup (h.rs.map Fd.d)), some (1, .lst (met.map IN)), x, y, z]) (by simp) ⟨met0 h.rs, x, none, none, met0_nodup _, met0_live ok, rfl, rfl⟩ ?_ ?_
    · rintro t ρ htn ⟨met, x, y, z, nd, lv, hw, rfl⟩
      have e1 : h.n - t = (h.n - (t + 1)) + 1 := by omega
      rw [e1] at hw
      unfold walk at hw
      by_cases ht : t < met.length
      · have ha : met[t]? = some met[t] := List.getElem?_eq_getElem ht
        obtain ⟨hlt, fs, hfs⟩ := lv met[t] (List.getElem_mem ht)
        have hr := law_held_run (h.c met[t]) (ok.sz _ hlt)
        rw [if_pos ht, ha, Option.getD_some] at hw
        simp [ht, ha, ix_cds hlt, hr]
        refine wp_for (inj := IN) (held (h.c met[t])) (fun pre ρ => ∃ y, ρ = [some (0, h.cds), some (0, .tup (h.rs.map Fd.d)), some (1, .lst ((addNew met pre).map IN)), x, some (0, .int (t : Int)), y]) rfl ⟨z, rfl⟩ ?_ ?_
        · rintro pre a post ρ hp ⟨y, rfl⟩
          have hlen := add_len ok nd lv hlt hp
          rw [addNew_app]
          by_cases hn : a ∈ addNew met pre
          · simp [hn]
          · simp [hn, Pv.big, hlen]
        · rintro ρ ⟨y, rfl⟩
          simp
          refine ⟨addNew met (held (h.c met[t])), addNew_nodup nd, fun b hb => ?_, hw, rfl⟩
          rcases addNew_mem.mp hb with h1 | h1
          · exact lv b h1
          · exact held_live ok hlt h1
      · rw [if_neg ht] at hw
        simp [ht]
        exact ⟨met, nd, lv, hw, rfl⟩
    · rintro ρ ⟨met, x, y, z, nd, lv, hw, rfl⟩
      rw [Nat.sub_self] at hw
      have hw : met = h.met := hw
      subst hw
      simp
      exact hQ _
end HP
set_option Elab.async false
set_option linter.all false
set_option maxRecDepth 100000
/-! H2: sorted, counted, freed -/
namespace HP
open PySem L2 Pv
/-! sorted -/
theorem toPys_IN : ∀ xs : List Nat, toPys (xs.map IN) = some (xs.map fun n : Nat => PyData.int (n : Int))
  | [] => rfl
  | x :: xs => by
    show (toPy (IN x)).bind _ = _
    have : toPy (IN x) = some (.int (x : Int)) := rfl
    rw [this]
    show (toPys (xs.map IN)).map _ = _
    rw [toPys_IN xs]; rfl
def sortN (xs : List Nat) : List Nat := xs.mergeSort fun a b => leD (IN a) (IN b)
theorem sortN_mem {xs : List Nat} {a : Nat} : a ∈ sortN xs ↔ a ∈ xs := List.mem_mergeSort
theorem sortN_len (xs : List Nat) : (sortN xs).length = xs.length := List.length_mergeSort _
theorem okSort_IN (xs : List Nat) : okSort (xs.map fun n : Nat => PyData.int (n : Int)) = true := by
  unfold okSort
  rw [Bool.and_eq_true]
  refine ⟨List.all_eq_true.mpr fun p hp => ?_, ?_⟩
  · obtain ⟨x, _, rfl⟩ := List.mem_map.mp hp
    rw [Bool.and_eq_true]
    refine ⟨decide_eq_true (by simp [PyData.depth]), List.all_eq_true.mpr fun q hq => ?_⟩
    obtain ⟨y, _, rfl⟩ := List.mem_map.mp hq
    rfl
  · rw [Bool.or_eq_true]
    refine .inr (List.all_eq_true.mpr fun q hq => ?_)
    obtain ⟨y, _, rfl⟩ := List.mem_map.mp hq
    rfl
theorem sorted_IN {k : Nat} {xs : List Nat} (hk : k ≤ 1) (hl : xs.length ≤ 1000000) : gSorted (k, .lst (xs.map IN)) = some (1, .lst ((sortN xs).map IN)) := by
  unfold gSorted
  rw [ld_l, if_pos hk]
  show sortD (xs.map IN) = _
  unfold sortD
  rw [toPys_IN]
  show (if okSort (xs.map fun n : Nat => PyData.int (n : Int)) = true ∧ (xs.map IN).length ≤ big then some (1, D.lst ((xs.map IN).mergeSort leD)) else none) = _
  rw [if_pos ⟨okSort_IN xs, by simpa [big] using hl⟩]
  congr 3
  unfold sortN
  rw [List.map_mergeSort (r := fun a b => leD (IN a) (IN b)) (s := leD) (f := IN) fun _ _ _ _ => rfl]
theorem met_lt {h : Hx} (ok : Ok h) : h.met.Nodup ∧ (∀ a ∈ h.met, live h a) := by
  have key : ∀ n t met, met.Nodup → (∀ a ∈ met, live h a) → (walk h.c n t met).Nodup ∧ (∀ a ∈ walk h.c n t met, live h a) := by
    intro n
    induction n with
    | zero => intro t met nd lv; exact ⟨nd, lv⟩
    | succ n ih =>
      intro t met nd lv
      unfold walk
      by_cases ht : t < met.length
      · rw [if_pos ht]
        refine ih _ _ (addNew_nodup nd) fun b hb => ?_
        rcases addNew_mem.mp hb with h1 | h1
        · exact lv b h1
        · rw [List.getElem?_eq_getElem ht] at h1
          exact held_live ok (lv _ (List.getElem_mem ht)).1 h1
      · rw [if_neg ht]; exact ih _ _ nd lv
  exact key _ _ _ (met0_nodup _) (met0_live ok)
theorem met_len {h : Hx} (ok : Ok h) : h.met.length ≤ 12 := by
  have h1 := met_lt ok
  have := nodup_le h1.1 fun a ha => (h1.2 a ha).1
  have := ok.nc
  omega
theorem clean_INt (xs : List Nat) : cleanD 0 (.tup (xs.map IN)) = true := by
  show noBoxs (xs.map IN) = true
  induction xs with
  | nil => rfl
  | cons x xs ih => show (noBox (IN x) && noBoxs (xs.map IN)) = true; rw [ih]; rfl
theorem reached_run {h : Hx} (ok : Ok h) : K36.m_reached_cells [h.d] = some (0, .tup ((sortN h.met).map IN)) := by
  refine def_of rfl (clean_INt _) fun Q hQ => ?_
  unfold K36.b_reached_cells
  have hm := met_cells_run ok
  have := met_len ok
  simp [Hx.d, hm, sorted_IN (k := 1) (xs := h.met) (by omega) (by omega)]
  exact hQ _
/-! counted -/
def flatH (h : Hx) : Nat → List Nat
  | 0 => []
  | m + 1 => flatH h m ++ held (h.c m)
def allHeld (h : Hx) : List Nat := flatH h h.n
def links (h : Hx) : List Nat := addrs h.rs ++ allHeld h
def cnt (h : Hx) (i : Nat) : Nat := (links h).count i
def cntO (h : Hx) (i : Nat) : Option Nat := (h.c i).map fun _ => cnt h i
def od : Option Nat → D
  | none => .non | some n => .int (n : Int)
@[simp] theorem od_n : od none = .non := rfl
@[simp] theorem od_s {n : Nat} : od (some n) = .int (n : Int) := rfl
def cntD (h : Hx) : List D := (List.range h.n).map fun i => od (cntO h i)
theorem lay_IN (xs : List Nat) : PyData.canLayAll0 (xs.map fun n : Nat => PyData.int (n : Int)) = true ∧ PyData.depthAll (xs.map fun n : Nat => PyData.int (n : Int)) ≤ 1 := by
  induction xs with
  | nil => exact ⟨rfl, by decide⟩
  | cons x xs ih =>
    refine ⟨?_, ?_⟩
    · show (PyData.canLay0 (.int (x : Int)) && PyData.canLayAll0 (xs.map fun n : Nat => PyData.int (n : Int))) = true
      rw [ih.1]; rfl
    · show max (PyData.depth (.int (x : Int))) (PyData.depthAll (xs.map fun n : Nat => PyData.int (n : Int))) ≤ 1
      have : PyData.depth (.int (x : Int)) = 0 := by simp [PyData.depth]
      omega
theorem count_IN {k l : Nat} {xs : List Nat} {n : Nat} (hk : k ≤ 1) : gCount (k, .lst (xs.map IN)) (l, .int (n : Int)) = some (0, .int ((xs.count n : Nat) : Int)) := by
  have e3 : eqOk (l, .int (n : Int)) = true := by simp [eqOk]
  have e1 : SeqAt.shaped (.tuple (xs.map fun n : Nat => PyData.int (n : Int))) = true := by
    unfold SeqAt.shaped
    rw [Bool.and_eq_true]
    refine ⟨(lay_IN xs).1, decide_eq_true ?_⟩
    show PyData.depthAll _ + 1 ≤ 64
    have := (lay_IN xs).2
    omega
  have e2 : SeqAt.shaped (.int (n : Int)) = true := by
    unfold SeqAt.shaped
    simp [PyData.canLay0, PyData.depth]
  unfold gCount
  dsimp only
  rw [if_pos ⟨hk, e3⟩, toPys_IN]
  have : toPy (.int (n : Int)) = some (.int (n : Int)) := rfl
  rw [this, Option.bind_some, Option.bind_some, if_pos ⟨e1, e2⟩]
  congr 4
  rw [List.countP_map]
  unfold List.count
  refine List.countP_congr fun x _ => ?_
  show PyData.eqv (.int (x : Int)) (.int (n : Int)) = true ↔ (x == n) = true
  simp [PyData.eqv]
  omega
theorem filt_no {fs : List Fd} (hn : ∀ i, Fd.nu i ∉ fs) : (fs.filter fun f => !isNon (Fd.d f)).map Fd.d = (addrs fs).map IN := by
  induction fs with
  | nil => rfl
  | cons f fs ih =>
    have ih := ih fun i h => hn i (List.mem_cons_of_mem _ h)
    cases f with
    | no => simpa using ih
    | nu i => exact absurd List.mem_cons_self (hn i)
    | ln n => rw [List.filter_cons_of_pos rfl, List.map_cons, ih]; rfl
theorem flatH_len {h : Hx} (ok : Ok h) : ∀ m, m ≤ h.n → (flatH h m).length ≤ 4 * m
  | 0, _ => by simp [flatH]
  | m + 1, hm => by
    have ih := flatH_len ok m (by omega)
    have := held_len ok (show m < h.n by omega)
    unfold flatH
    rw [List.length_append]
    omega
theorem clean_cnt (h : Hx) (xs : List Nat) : (xs.map fun i => od (cntO h i)).all (cleanD 0) = true := List.all_eq_true.mpr fun d hd => by
  obtain ⟨i, _, rfl⟩ := List.mem_map.mp hd
  cases cntO h i <;> rfl
theorem noBoxs_all {ds : List D} (h : ∀ d ∈ ds, noBox d = true) : noBoxs ds = true := by
  induction ds with
  | nil => rfl
  | cons d ds ih =>
    show (noBox d && noBoxs ds) = true
    rw [h d List.mem_cons_self, ih fun e he => h e (List.mem_cons_of_mem _ he)]; rfl
theorem od_box (o : Option Nat) : noBox (od o) = true := by cases o <;> rfl
theorem isN_cd (c : Cell) : isNon (cd c) = !c.isSome := by cases c <;> rfl
theorem law_counts_run {h : Hx} (ok : Ok h) : K36.m_law_counts [h.d] = some (1, .lst (cntD h)) := by
  refine def_of rfl (clean_cnt h _) fun Q hQ => ?_
  unfold K36.b_law_counts
  have h4 := ok.nr
  have h12 := ok.nc
  have h4' : h.rs.length ≤ 1000000 := by omega
  have h12' : h.n ≤ 1000000000 := by omega
  have hal := addrs_len h.rs
  simp [Hx.d, h4', h12']
  rw [comp_fm (fun f => !isNon (Fd.d f)) Fd.d (by intro a ha; simp), filt_no ok.rn]
  simp
  refine wp_tab h.n (fun i => cd (h.c i)) (fun m ρ => ∃ x, ρ = [some (0, h.d), some (1, .lst ((addrs h.rs ++ flatH h m).map IN)), x, none, none, none, none]) rfl ⟨none, by simp [Hx.d, flatH]⟩ ?_ ?_
  · rintro a ρ hl ⟨x, rfl⟩
    have hr := law_held_run (h.c a) (ok.sz a hl)
    have h1 := flatH_len ok a (by omega)
    have h2 := held_len ok hl
    simp [hr, Hx.d, flatH]
    omega
  · rintro ρ ⟨x, rfl⟩
    simp [Hx.d, h12']
    refine wp_range h.n (fun m ρ => ∃ x y z, ρ = [some (0, h.d), some (1, .lst ((links h).map IN)), x, some (1, .lst ((List.range m).map fun i => od (cntO h i))), y, z, none]) (by simp) ⟨x, none, none, by simp [Hx.d, links, allHeld]⟩ ?_ ?_
    · rintro m ρ hm ⟨x, y, z, rfl⟩
      cases hc : h.c m with
      | none =>
        simp [Hx.d, ix_cds hm, hc, Pv.big]
        refine ⟨by omega, ?_⟩
        rw [List.range_succ]; simp [cntO, hc]
      | some fs =>
        simp [Hx.d, ix_cds hm, hc, Pv.big, count_IN]
        refine ⟨by omega, ?_⟩
        rw [List.range_succ]; simp [cntO, hc, cnt]
    · rintro ρ ⟨x, y, z, rfl⟩
      simp
      exact hQ _
theorem counts_run {h : Hx} (ok : Ok h) : K36.m_counts_of [h.d] = some (0, .tup (cntD h)) := by
  refine def_of rfl (noBoxs_all fun d hd => by obtain ⟨i, _, rfl⟩ := List.mem_map.mp hd; exact od_box _) fun Q hQ => ?_
  unfold K36.b_counts_of
  have h4 := ok.nr
  have h12 := ok.nc
  have h4' : h.rs.length ≤ 1000000 := by omega
  have h12' : h.n ≤ 1000000 := by omega
  have hal := addrs_len h.rs
  simp [Hx.d, h4', h12']
  rw [comp_fm (fun f => !isNon (Fd.d f)) Fd.d (by intro a ha; simp), filt_no ok.rn]
  simp
  refine wp_tab h.n (fun i => cd (h.c i)) (fun m ρ => ∃ x, lvl0 (some x) = true ∧ ρ = [some (0, h.d), some (0, .tup (h.rs.map Fd.d)), some (0, h.cds), some (1, .lst ((addrs h.rs ++ flatH h m).map IN)), x, none, none]) rfl ⟨none, rfl, by simp [Hx.d, flatH]⟩ ?_ ?_
  · rintro a ρ hl ⟨x, hx, rfl⟩
    have hr := held_run (h.c a) (ok.sz a hl)
    have h1 := flatH_len ok a (by omega)
    have h2 := held_len ok hl
    simp [hr, Hx.d, flatH]
    omega
  · rintro ρ ⟨x, hx, rfl⟩
    simp [h12', enum_tab, hx]
    rw [comp_map fun i => od (cntO h i)]
    · simp; exact hQ _
    · intro i hi
      cases hc : h.c i with
      | none => simp [hc, cntO]
      | some fs => simp [hc, cntO, ← List.map_append, count_IN, cnt, links, allHeld]
end HP
set_option Elab.async false
set_option linter.all false
set_option maxRecDepth 100000
/-! H3: the plain theory: closure, freeing, keeping -/
namespace HP
open PySem L2 Pv
theorem met_key {h : Hx} (ok : Ok h) : (∀ m ∈ h.met, ∀ b ∈ held (h.c m), b ∈ h.met) ∧ (∀ b ∈ h.met, b ∈ addrs h.rs ∨ ∃ m ∈ h.met, b ∈ held (h.c m)) ∧ (∀ b ∈ addrs h.rs, b ∈ h.met) := by
  have key : ∀ (n t : Nat) (met : List Nat), t + n = h.n → met.Nodup → (∀ a ∈ met, live h a) → (∀ j a, j < t → met[j]? = some a → ∀ b ∈ held (h.c a), b ∈ met) → (∀ b ∈ met, b ∈ addrs h.rs ∨ ∃ m ∈ met, b ∈ held (h.c m)) → (∀ b ∈ addrs h.rs, b ∈ met) →
      (∀ m ∈ walk h.c n t met, ∀ b ∈ held (h.c m), b ∈ walk h.c n t met) ∧ (∀ b ∈ walk h.c n t met, b ∈ addrs h.rs ∨ ∃ m ∈ walk h.c n t met, b ∈ held (h.c m)) ∧ (∀ b ∈ addrs h.rs, b ∈ walk h.c n t met) := by
    intro n
    induction n with
    | zero =>
      intro t met e nd lv c1 c2 c3
      refine ⟨fun m hm b hb => ?_, c2, c3⟩
      obtain ⟨j, hj, rfl⟩ := List.getElem_of_mem (show m ∈ met from hm)
      have := nodup_le nd fun a ha => (lv a ha).1
      exact c1 j _ (by omega) (List.getElem?_eq_getElem hj) b hb
    | succ n ih =>
      intro t met e nd lv c1 c2 c3
      unfold walk
      by_cases ht : t < met.length
      · rw [if_pos ht, List.getElem?_eq_getElem ht, Option.getD_some]
        obtain ⟨more, hm⟩ := addNew_pre (as := held (h.c met[t])) (met := met)
        refine ih (t + 1) _ (by omega) (addNew_nodup nd) (fun b hb => ?_) (fun j a hj ha b hb => ?_) (fun b hb => ?_) (fun b hb => addNew_mem.mpr (.inl (c3 b hb)))
        · rcases addNew_mem.mp hb with h1 | h1
          · exact lv b h1
          · exact held_live ok (lv _ (List.getElem_mem ht)).1 h1
        · have hj2 : j < met.length := by omega
          rw [hm, List.getElem?_append_left hj2] at ha
          by_cases hjt : j = t
          · subst hjt
            rw [List.getElem?_eq_getElem ht] at ha
            cases ha
            exact addNew_mem.mpr (.inr hb)
          · exact addNew_mem.mpr (.inl (c1 j a (by omega) ha b hb))
        · rcases addNew_mem.mp hb with h1 | h1
          · rcases c2 b h1 with h2 | ⟨m, h2, h3⟩
            · exact .inl h2
            · exact .inr ⟨m, addNew_mem.mpr (.inl h2), h3⟩
          · exact .inr ⟨met[t], addNew_mem.mpr (.inl (List.getElem_mem ht)), h1⟩
      · rw [if_neg ht]
        exact ih (t + 1) met (by omega) nd lv (fun j a hj ha => c1 j a (by have := (List.getElem?_eq_some_iff.mp ha).1; omega) ha) c2 c3
  refine key h.n 0 (met0 h.rs) (by omega) (met0_nodup _) (met0_live ok) (fun j a hj => absurd hj (Nat.not_lt_zero _)) (fun b hb => ?_) (fun b hb => addNew_mem.mpr (.inr hb))
  rcases addNew_mem.mp hb with h1 | h1
  · cases h1
  · exact .inl h1
theorem met_iff {h : Hx} (ok : Ok h) {b : Nat} : b ∈ h.met ↔ b ∈ addrs h.rs ∨ ∃ m ∈ h.met, b ∈ held (h.c m) := by
  obtain ⟨k1, k2, k3⟩ := met_key ok
  exact ⟨k2 b, fun q => q.elim (k3 b) fun ⟨m, h1, h2⟩ => k1 m h1 b h2⟩
/-! kept -/
def keep (h : Hx) : Hx := ⟨h.rs, h.n, fun i => if i ∈ h.met then h.c i else none⟩
theorem walk_same {c c' : Nat → Cell} {S : Nat → Prop} (hc : ∀ a, S a → ∀ b ∈ held (c a), S b) (he : ∀ a, S a → c' a = c a) : ∀ (n t : Nat) (met : List Nat), (∀ a ∈ met, S a) → walk c' n t met = walk c n t met
  | 0, _, _, _ => rfl
  | n + 1, t, met, hm => by
    unfold walk
    by_cases ht : t < met.length
    · have h1 := hm _ (List.getElem_mem ht)
      rw [if_pos ht, if_pos ht, List.getElem?_eq_getElem ht, Option.getD_some, he _ h1]
      exact walk_same hc he n (t + 1) _ fun a ha => (addNew_mem.mp ha).elim (hm a) (hc _ h1 a)
    · rw [if_neg ht, if_neg ht]
      exact walk_same hc he n (t + 1) met hm
theorem keep_met {h : Hx} (ok : Ok h) : (keep h).met = h.met := by
  obtain ⟨k1, k2, k3⟩ := met_key ok
  refine walk_same (S := fun a => a ∈ h.met) (fun a ha => k1 a ha) (fun a ha => if_pos ha) h.n 0 _ fun a ha => ?_
  rcases addNew_mem.mp ha with h1 | h1
  · cases h1
  · exact k3 a h1
theorem keep_c {h : Hx} {i : Nat} {fs : List Fd} (e : (keep h).c i = some fs) : i ∈ h.met ∧ h.c i = some fs := by
  unfold keep at e
  dsimp only at e
  split at e
  · exact ⟨‹_›, e⟩
  · cases e
theorem keep_ok {h : Hx} (ok : Ok h) : Ok (keep h) := by
  obtain ⟨k1, k2, k3⟩ := met_key ok
  have lv : ∀ a, a ∈ h.met → live (keep h) a := fun a ha => by
    obtain ⟨h1, fs, h2⟩ := (met_lt ok).2 a ha
    exact ⟨h1, fs, by show (if a ∈ h.met then h.c a else none) = _; rw [if_pos ha, h2]⟩
  refine ⟨fun a ha => lv a (k3 a (mem_addrs.mpr ha)), ok.rn, fun i fs hi e a ha => ?_, fun i hi fs e => ok.sz i hi fs (keep_c e).2, ok.nr, ok.nc, fun i hi => ?_⟩
  · obtain ⟨h1, h2⟩ := keep_c e
    exact lv a (k1 i h1 a (by rw [h2]; exact mem_addrs.mpr ha))
  · show (if i ∈ h.met then h.c i else none) = none
    rw [ok.ou i hi]; split <;> rfl
theorem keep_keep {h : Hx} (ok : Ok h) : keep (keep h) = keep h := by
  show Hx.mk _ _ _ = Hx.mk _ _ _
  congr 1
  funext i
  show (if i ∈ (keep h).met then (keep h).c i else none) = (keep h).c i
  rw [keep_met ok]
  show (if i ∈ h.met then (if i ∈ h.met then h.c i else none) else none) = (if i ∈ h.met then h.c i else none)
  split <;> rfl
/-! freed -/
def free1 (h : Hx) : Hx := ⟨h.rs, h.n, fun i => if cntO h i = some 0 then none else h.c i⟩
theorem flatH_mem {h : Hx} {b : Nat} : ∀ {m : Nat}, b ∈ flatH h m ↔ ∃ i, i < m ∧ b ∈ held (h.c i)
  | 0 => by simp [flatH]
  | m + 1 => by
    unfold flatH
    rw [List.mem_append, flatH_mem]
    constructor
    · rintro (⟨i, h1, h2⟩ | h1)
      · exact ⟨i, by omega, h2⟩
      · exact ⟨m, by omega, h1⟩
    · rintro ⟨i, h1, h2⟩
      by_cases e : i = m
      · subst e; exact .inr h2
      · exact .inl ⟨i, by omega, h2⟩
theorem links_mem {h : Hx} {b : Nat} : b ∈ links h ↔ b ∈ addrs h.rs ∨ ∃ i, i < h.n ∧ b ∈ held (h.c i) := by
  unfold links allHeld
  rw [List.mem_append, flatH_mem]
theorem cntO_0 {h : Hx} {i : Nat} : cntO h i = some 0 ↔ (h.c i).isSome = true ∧ i ∉ links h := by
  unfold cntO cnt
  cases h.c i with
  | none => simp
  | some fs => simp [List.count_eq_zero]
theorem free1_c {h : Hx} {i : Nat} {fs : List Fd} (e : (free1 h).c i = some fs) : h.c i = some fs := by
  unfold free1 at e
  dsimp only at e
  split at e
  · cases e
  · exact e
theorem free1_ok {h : Hx} (ok : Ok h) : Ok (free1 h) := by
  have lv : ∀ a, a ∈ links h → live h a → live (free1 h) a := fun a ha ⟨h1, fs, h2⟩ => ⟨h1, fs, by
    show (if cntO h a = some 0 then none else h.c a) = _
    rw [if_neg (fun z => (cntO_0.mp z).2 ha), h2]⟩
  refine ⟨fun a ha => lv a (links_mem.mpr (.inl (mem_addrs.mpr ha))) (ok.rl a ha), ok.rn, fun i fs hi e a ha => ?_, fun i hi fs e => ok.sz i hi fs (free1_c e), ok.nr, ok.nc, fun i hi => ?_⟩
  · have e' := free1_c e
    exact lv a (links_mem.mpr (.inr ⟨i, hi, by rw [e']; exact mem_addrs.mpr ha⟩)) (ok.cl i fs hi e' a ha)
  · show (if cntO h i = some 0 then none else h.c i) = none
    rw [ok.ou i hi]; split <;> rfl
def fixd (h : Hx) : Prop := ∀ i, i < h.n → cntO h i ≠ some 0
theorem free1_fix {h : Hx} (ok : Ok h) (f : fixd h) : free1 h = h := by
  show Hx.mk _ _ _ = _
  cases h with
  | mk rs n c =>
    congr 1
    funext i
    by_cases hi : i < n
    · rw [if_neg (f i hi)]
    · have := ok.ou i (by show n ≤ i; omega)
      dsimp only at this ⊢
      rw [this]; split <;> rfl
def liveN (h : Hx) : Nat := ((List.range h.n).filter fun i => (h.c i).isSome).length
theorem filter_lt {p q : Nat → Bool} {xs : List Nat} (hpq : ∀ a, q a = true → p a = true) {a : Nat} (ha : a ∈ xs) (hp : p a = true) (hq : q a = false) : (xs.filter q).length < (xs.filter p).length := by
  induction xs with
  | nil => cases ha
  | cons x xs ih =>
    have le : (xs.filter q).length ≤ (xs.filter p).length := by
      clear ih ha
      induction xs with
      | nil => exact Nat.le_refl _
      | cons y ys ih =>
        by_cases hy : q y = true
        · rw [List.filter_cons_of_pos hy, List.filter_cons_of_pos (hpq y hy)]; simpa using ih
        · rw [List.filter_cons_of_neg hy]
          by_cases hy2 : p y = true
          · rw [List.filter_cons_of_pos hy2]; simp; omega
          · rw [List.filter_cons_of_neg hy2]; exact ih
    rcases List.mem_cons.mp ha with e | h1
    · subst e
      rw [List.filter_cons_of_pos hp, List.filter_cons_of_neg (by rw [hq]; exact Bool.false_ne_true)]
      simp; omega
    · have := ih h1
      by_cases hx : q x = true
      · rw [List.filter_cons_of_pos hx, List.filter_cons_of_pos (hpq x hx)]; simp; omega
      · rw [List.filter_cons_of_neg hx]
        by_cases hx2 : p x = true
        · rw [List.filter_cons_of_pos hx2]; simp; omega
        · rw [List.filter_cons_of_neg hx2]; exact this
theorem free1_less {h : Hx} {i : Nat} (hi : i < h.n) (h0 : cntO h i = some 0) : liveN (free1 h) < liveN h := by
  refine filter_lt (a := i) (fun a ha => ?_) (List.mem_range.mpr hi) (cntO_0.mp h0).1 ?_
  · have : ((if cntO h a = some 0 then none else h.c a) : Cell).isSome = true := ha
    split at this
    · cases this
    · exact this
  · show ((if cntO h i = some 0 then none else h.c i) : Cell).isSome = false
    rw [if_pos h0]; rfl
def iterF : Nat → Hx → Hx
  | 0, h => h
  | m + 1, h => free1 (iterF m h)
theorem iterF_ok {h : Hx} (ok : Ok h) : ∀ m, Ok (iterF m h)
  | 0 => ok
  | m + 1 => free1_ok (iterF_ok ok m)
theorem iterF_n {h : Hx} : ∀ m, (iterF m h).n = h.n ∧ (iterF m h).rs = h.rs
  | 0 => ⟨rfl, rfl⟩
  | m + 1 => iterF_n (h := h) m
theorem iterF_add {h : Hx} (b : Nat) : ∀ a, iterF (a + b) h = iterF a (iterF b h)
  | 0 => by rw [Nat.zero_add]; rfl
  | a + 1 => by
    rw [show a + 1 + b = (a + b) + 1 by omega]
    show free1 _ = free1 _
    rw [iterF_add b a]
theorem iterF_fix {h : Hx} (ok : Ok h) (f : fixd h) : ∀ m, iterF m h = h
  | 0 => rfl
  | m + 1 => by show free1 (iterF m h) = h; rw [iterF_fix ok f m, free1_fix ok f]
theorem fixd_dec (h : Hx) : fixd h ∨ ∃ i, i < h.n ∧ cntO h i = some 0 := by
  by_cases q : ∃ i, i < h.n ∧ cntO h i = some 0
  · exact .inr q
  · exact .inl fun i hi e => q ⟨i, hi, e⟩
theorem iterF_end {h : Hx} (ok : Ok h) : ∀ k, liveN h ≤ k → fixd (iterF k h) := by
  intro k
  induction k generalizing h with
  | zero =>
    intro hk
    rcases fixd_dec h with f | ⟨i, hi, e⟩
    · exact f
    · have := free1_less hi e; omega
  | succ k ih =>
    intro hk
    rw [show k + 1 = k + 1 from rfl, iterF_add 1 k]
    rcases fixd_dec h with f | ⟨i, hi, e⟩
    · have e1 : iterF 1 h = h := iterF_fix ok f 1
      rw [e1, iterF_fix ok f]; exact f
    · have := free1_less hi e
      exact ih (h := free1 h) (free1_ok ok) (by omega)
theorem liveN_le (h : Hx) : liveN h ≤ h.n := by
  have := List.length_filter_le (fun i => (h.c i).isSome) (List.range h.n)
  simpa [liveN] using this
def freed (h : Hx) : Hx := iterF (h.n + 1) h
theorem freed_ok {h : Hx} (ok : Ok h) : Ok (freed h) := iterF_ok ok _
theorem freed_fix {h : Hx} (ok : Ok h) : fixd (freed h) := iterF_end ok _ (by have := liveN_le h; omega)
theorem freed_eq {h : Hx} (ok : Ok h) {j : Nat} (f : fixd (iterF j h)) : iterF j h = freed h := by
  unfold freed
  rcases Nat.le_total j (h.n + 1) with hl | hl
  · obtain ⟨d, hd⟩ := Nat.exists_eq_add_of_le hl
    rw [hd, Nat.add_comm j d, iterF_add, iterF_fix (iterF_ok ok j) f]
  · obtain ⟨d, hd⟩ := Nat.exists_eq_add_of_le hl
    rw [hd, Nat.add_comm (h.n + 1) d, iterF_add, iterF_fix (iterF_ok ok _) (freed_fix ok)]
/-! the counts without what is not come to -/
def dl (h : Hx) : Nat → List Nat
  | 0 => []
  | m + 1 => dl h m ++ (if m ∈ h.met then [] else held (h.c m))
theorem dl_count {h : Hx} {b : Nat} (m : Nat) : (dl h m).count b ≤ (flatH h m).count b ∧ ((dl h m).count b = (flatH h m).count b ↔ ∀ i, i < m → i ∈ h.met → b ∉ held (h.c i)) := by
  induction m with
  | zero => exact ⟨Nat.le_refl _, by simp [dl, flatH]⟩
  | succ m ih =>
    obtain ⟨i1, i2⟩ := ih
    unfold dl flatH
    rw [List.count_append, List.count_append]
    by_cases hm : m ∈ h.met
    · rw [if_pos hm]
      refine ⟨by simp; omega, ?_⟩
      constructor
      · intro e i hi him
        have e0 : (held (h.c m)).count b = 0 := by simp at e; omega
        by_cases q : i = m
        · subst q; exact List.count_eq_zero.mp e0
        · exact i2.mp (by simp at e; omega) i (by omega) him
      · intro f
        have h0 := List.count_eq_zero.mpr (f m (by omega) hm)
        have := i2.mpr fun i hi => f i (by omega)
        simp; omega
    · rw [if_neg hm]
      refine ⟨by omega, ?_⟩
      constructor
      · intro e i hi him
        by_cases q : i = m
        · subst q; exact absurd him hm
        · exact i2.mp (by omega) i (by omega) him
      · intro f
        have := i2.mpr fun i hi => f i (by omega)
        omega
theorem cnt_dl {h : Hx} (ok : Ok h) (b : Nat) : (dl h h.n).count b ≤ cnt h b ∧ (cnt h b = (dl h h.n).count b ↔ b ∉ h.met) := by
  obtain ⟨h1, h2⟩ := dl_count (h := h) (b := b) h.n
  have hc : cnt h b = (addrs h.rs).count b + (flatH h h.n).count b := by unfold cnt links allHeld; rw [List.count_append]
  refine ⟨by omega, ?_⟩
  constructor
  · intro e hm
    rcases (met_iff ok).mp hm with q | ⟨m, q1, q2⟩
    · have : 0 < (addrs h.rs).count b := List.count_pos_iff.mpr q
      omega
    · exact h2.mp (by omega) m ((met_lt ok).2 m q1).1 q1 q2
  · intro hm
    have e0 : (addrs h.rs).count b = 0 := List.count_eq_zero.mpr fun q => hm ((met_iff ok).mpr (.inl q))
    have := h2.mpr fun i _ q1 q2 => hm ((met_iff ok).mpr (.inr ⟨i, q1, q2⟩))
    omega
end HP
set_option Elab.async false
set_option linter.all false
set_option maxRecDepth 100000
/-! H4: freed, kept, rings: the defs -/
namespace HP
open PySem L2 Pv
theorem fd_box (f : Fd) : noBox f.d = true := by cases f <;> rfl
theorem cd_box (c : Cell) : noBox (cd c) = true := by
  cases c with
  | none => rfl
  | some fs => exact noBoxs_all fun d hd => by obtain ⟨f, _, rfl⟩ := List.mem_map.mp hd; exact fd_box f
theorem cds_box (h : Hx) : noBox h.cds = true := noBoxs_all fun d hd => by obtain ⟨f, _, rfl⟩ := List.mem_map.mp hd; exact cd_box _
theorem d_box (h : Hx) : noBox h.d = true := by
  show (noBoxs (h.rs.map Fd.d) && (noBox h.cds && true)) = true
  rw [cds_box, noBoxs_all fun d hd => by obtain ⟨f, _, rfl⟩ := List.mem_map.mp hd; exact fd_box f]
  rfl
theorem len_cnt (h : Hx) : (cntD h).length = h.n := by simp [cntD]
theorem cnt_at {h : Hx} {i : Nat} (hi : i < h.n) : (cntD h)[i]? = some (od (cntO h i)) := by simp [cntD, hi]
theorem free_run {h : Hx} (ok : Ok h) : K36.m_free_at_nought [h.cds, .tup (cntD h)] = some (0, (free1 h).cds) := by
  refine def_of rfl (cds_box (free1 h)) fun Q hQ => ?_
  unfold K36.b_free_at_nought
  have h12 := ok.nc
  have h12' : h.n ≤ 1000000 := by omega
  simp [cntD, zip_same, h12']
  rw [comp_map fun i => cd ((free1 h).c i)]
  · simp
    exact hQ _
  · intro i hi
    show elemR _ _ _ _ _ _ = some (some (cd (if cntO h i = some 0 then none else h.c i)))
    cases hc : cntO h i with
    | none => simp [hc]
    | some k =>
      by_cases hk : k = 0
      · simp [hc, hk]
      · have hk' : ¬ (k : Int) = 0 := by omega
        simp [hc, hk, hk']
theorem law_freed_run {h : Hx} (ok : Ok h) : K36.m_law_freed [h.d] = some (0, (freed h).d) := by
  refine def_of rfl (d_box _) fun Q hQ => ?_
  unfold K36.b_law_freed
  have h12 := ok.nc
  have h12' : h.n + 1 ≤ 1000000000 := by omega
  have h12'' : h.n ≤ 1000000 := by omega
  have h12a : h.n ≤ 1000000000 := by omega
  have e1 : ((h.n : Int) + 1) = ((h.n + 1 : Nat) : Int) := by omega
  simp [Hx.d, e1, -Int.natCast_add, h12']
  refine wp_range (h.n + 1) (fun m ρ => ∃ x y z, ρ = [some (0, (iterF m h).d), x, y, z, none]) (by simp) ⟨none, none, none, rfl⟩ ?_ ?_
  · rintro m ρ hm ⟨x, y, z, rfl⟩
    have hr := law_counts_run (iterF_ok ok m)
    obtain ⟨n1, n2⟩ := iterF_n (h := h) m
    generalize hg : iterF m h = g at *
    simp [hr, len_cnt, n1, h12a, h12'']
    rw [comp_map fun i => cd ((free1 g).c i)]
    · simp [Hx.d]
      rw [show iterF (m + 1) h = free1 g by rw [← hg]; rfl]
      simp [free1, Hx.cds, n1]
    · intro i hi
      have hi' : i < h.n := List.mem_range.mp hi
      have hi2 : i < g.n := by omega
      show elemR _ _ _ _ _ _ = some (some (cd (if cntO g i = some 0 then none else g.c i)))
      cases hc : cntO g i with
      | none => simp [hc, cnt_at hi2, Hx.d, ix_cds hi2]
      | some k =>
        by_cases hk : k = 0
        · simp [hc, hk, cnt_at hi2, Hx.d, ix_cds hi2]
        · have hk' : ¬ (k : Int) = 0 := by omega
          simp [hc, hk, hk', cnt_at hi2, Hx.d, ix_cds hi2]
  · rintro ρ ⟨x, y, z, rfl⟩
    simp
    exact hQ _
/-! one root gone -/
def setNo (h : Hx) (k : Nat) : Hx := ⟨h.rs.take k ++ [.no] ++ h.rs.drop (k + 1), h.n, h.c⟩
theorem setNo_mem {h : Hx} {k a : Nat} (hm : Fd.ln a ∈ (setNo h k).rs) : Fd.ln a ∈ h.rs := by
  have : Fd.ln a ∈ h.rs.take k ++ [.no] ++ h.rs.drop (k + 1) := hm
  simp at this
  rcases this with q | q
  · exact List.mem_of_mem_take q
  · exact List.mem_of_mem_drop q
theorem setNo_ok {h : Hx} (ok : Ok h) {k : Nat} (hk : k < h.rs.length) : Ok (setNo h k) := by
  refine ⟨fun a ha => ok.rl a (setNo_mem ha), fun i hi => ok.rn i ?_, ok.cl, ok.sz, ?_, ok.nc, ok.ou⟩
  · have : Fd.nu i ∈ h.rs.take k ++ [.no] ++ h.rs.drop (k + 1) := hi
    simp at this
    rcases this with q | q
    · exact List.mem_of_mem_take q
    · exact List.mem_of_mem_drop q
  · have : (setNo h k).rs.length = h.rs.length := by simp [setNo]; omega
    rw [this]; exact ok.nr
theorem in_cnt {h : Hx} {k l : Nat} : gIn false (k, .int 0) (l, .tup (cntD h)) = some (0, .bl (decide (∃ i, i < h.n ∧ cntO h i = some 0))) := by
  have hf : (cntD h).all flatD = true := List.all_eq_true.mpr fun d hd => by
    obtain ⟨i, _, rfl⟩ := List.mem_map.mp hd
    cases cntO h i <;> rfl
  show (if flatD (.int 0) = true ∧ (cntD h).all flatD = true then some (0, D.bl (false != inF (.int 0) (cntD h))) else none) = _
  rw [if_pos ⟨rfl, hf⟩]
  congr 3
  rw [Bool.false_bne, Bool.eq_iff_iff]
  unfold inF
  rw [List.any_eq_true, decide_eq_true_eq]
  constructor
  · rintro ⟨d, hd, e⟩
    obtain ⟨i, hi, rfl⟩ := List.mem_map.mp hd
    refine ⟨i, List.mem_range.mp hi, ?_⟩
    cases hc : cntO h i with
    | none => rw [hc] at e; cases e
    | some k =>
      rw [hc] at e
      have e2 : ((k : Int) == 0) = true := e
      have : (k : Int) = 0 := by simpa using e2
      have : k = 0 := by omega
      rw [this]
  · rintro ⟨i, hi, e⟩
    exact ⟨od (cntO h i), List.mem_map.mpr ⟨i, List.mem_range.mpr hi, rfl⟩, by rw [e]; rfl⟩
theorem counted_free_run {h : Hx} (ok : Ok h) {k : Nat} (hk : k < h.rs.length) : K36.m_counted_free [h.d, .int (k : Int)] = some (0, (freed (setNo h k)).d) := by
  refine def_of rfl (d_box _) fun Q hQ => ?_
  unfold K36.b_counted_free
  have ok0 := setNo_ok ok hk
  have h4 := ok.nr
  have h12 := ok.nc
  have hr := counts_run ok0
  have e1 : ((k : Int) + 1) = ((k + 1 : Nat) : Int) := by omega
  have e2 : D.tup [D.tup (List.map Fd.d (List.take k h.rs) ++ D.non :: List.map Fd.d (List.drop (k + 1) h.rs)), h.cds] = (setNo h k).d := by
    simp [setNo, Hx.d, Hx.cds]
  rw [← e2] at hr
  have hl1 : min k h.rs.length + 1 ≤ 1000000 := by omega
  have hl2 : min k h.rs.length + 1 + (h.rs.length - (k + 1)) ≤ 1000000 := by omega
  simp [Hx.d, cut_take, e1, -Int.natCast_add, cut_drop, ← List.map_take, ← List.map_drop, hl1, hl2, hr]
  refine wp_while (fun m ρ => ∃ j, m = liveN (iterF j (setNo h k)) ∧ ρ = [some (0, h.d), some (0, .int (k : Int)), some (0, .tup ((setNo h k).rs.map Fd.d)), some (0, (iterF j (setNo h k)).cds), some (0, .tup (cntD (iterF j (setNo h k))))]) ⟨0, rfl, by simp [Hx.d, iterF, setNo, Hx.cds]⟩ (by have := liveN_le (iterF 0 (setNo h k)); have e : (iterF 0 (setNo h k)).n = h.n := rfl; omega) ?_
  rintro m ρ ⟨j, rfl, rfl⟩
  have okj := iterF_ok ok0 j
  obtain ⟨n1, n2⟩ := iterF_n (h := setNo h k) j
  have hr1 := free_run okj
  have hr2 := counts_run (free1_ok okj)
  simp [in_cnt]
  refine ⟨fun i hi h0 => ?_, fun hno => ?_⟩
  · have e3 : D.tup [D.tup ((setNo h k).rs.map Fd.d), (free1 (iterF j (setNo h k))).cds] = (free1 (iterF j (setNo h k))).d := by
      show _ = D.tup [D.tup ((iterF j (setNo h k)).rs.map Fd.d), _]
      rw [n2]
    simp [hr1, e3, hr2]
    exact ⟨_, free1_less hi h0, j + 1, rfl, rfl, rfl⟩
  · have f : fixd (iterF j (setNo h k)) := fun i hi e => hno i hi e
    have e4 := freed_eq ok0 f
    have e5 : D.tup [D.tup ((setNo h k).rs.map Fd.d), (iterF j (setNo h k)).cds] = (freed (setNo h k)).d := by
      rw [← e4]
      show _ = D.tup [D.tup ((iterF j (setNo h k)).rs.map Fd.d), _]
      rw [n2]
    simp [e5]
    exact hQ _
theorem swept_run {h : Hx} (ok : Ok h) : K36.m_marked_swept [h.d] = some (0, (keep h).d) := by
  refine def_of rfl (d_box _) fun Q hQ => ?_
  unfold K36.b_marked_swept
  have h12 := ok.nc
  have h12' : h.n ≤ 1000000 := by omega
  have hm := met_cells_run ok
  simp [Hx.d, hm, enum_tab, h12']
  rw [comp_map fun i => cd ((keep h).c i)]
  · simp
    exact hQ _
  · intro i hi
    show elemR _ _ _ _ _ _ = some (some (cd (if i ∈ h.met then h.c i else none)))
    by_cases hi : i ∈ h.met
    · simp [hi]
    · simp [hi]
theorem rings_left_run {h : Hx} (ok : Ok h) (f : fixd h) : K36.m_rings_left [h.d] = some (0, .tup (((List.range h.n).filter fun i => (h.c i).isSome && !decide (i ∈ h.met)).map IN)) := by
  refine def_of rfl (clean_INt _) fun Q hQ => ?_
  unfold K36.b_rings_left
  have h12 := ok.nc
  have h12' : h.n ≤ 1000000 := by omega
  have hm := reached_run ok
  have hr := counts_run ok
  simp [hm, hr, cntD, enum_tab, h12']
  rw [comp_fm (fun i => (h.c i).isSome && !decide (i ∈ h.met)) IN]
  · simp
    exact hQ _
  · intro i hi
    have hi' : i < h.n := List.mem_range.mp hi
    have hf := f i hi'
    cases hc : h.c i with
    | none => simp [cntO, hc]
    | some fs =>
      have e : cntO h i = some (cnt h i) := by simp [cntO, hc]
      have h0 : 0 < cnt h i := by
        rcases Nat.eq_zero_or_pos (cnt h i) with q | q
        · rw [q] at e; exact absurd e hf
        · exact q
      have h0' : (0 : Int) < (cnt h i : Int) := by omega
      simp [e, h0, sortN_mem]
end HP
set_option Elab.async false
set_option linter.all false
set_option maxRecDepth 100000
/-! H5: rings freed, copied, compared -/
namespace HP
open PySem L2 Pv
theorem lstOf_t {k : Nat} {ds : List D} : gLstOf (k, .tup ds) = some (1, .lst ds) := rfl
def od2 (o : Option Nat) (k : Nat) : D := match o with
  | none => .non | some c => .int ((c : Int) - (k : Int))
@[simp] theorem od2_n {k : Nat} : od2 none k = .non := rfl
@[simp] theorem od2_s {c k : Nat} : od2 (some c) k = .int ((c : Int) - (k : Int)) := rfl
def subD (h : Hx) (L : List Nat) : List D := (List.range h.n).map fun i => od2 (cntO h i) (L.count i)
theorem subD_nil (h : Hx) : subD h [] = cntD h := by
  unfold subD cntD
  refine List.map_congr_left fun i _ => ?_
  cases cntO h i <;> simp
theorem sub_at {h : Hx} {i : Nat} {L : List Nat} (hi : i < h.n) : (subD h L)[i]? = some (od2 (cntO h i) (L.count i)) := by simp [subD, hi]
theorem sub_set {h : Hx} {x c : Nat} {L : List Nat} (hx : x < h.n) (hc : cntO h x = some c) : setAt (subD h L) (x : Int) (.int ((c : Int) - (L.count x : Nat) - 1)) = some (subD h (L ++ [x])) := by
  unfold setAt
  have e : ixN (subD h L).length (x : Int) = some x := by
    unfold ixN
    have : (subD h L).length = h.n := by simp [subD]
    rw [this, if_pos (by omega), if_pos (by omega)]
    simp
  rw [e]
  show some ((subD h L).set x _) = _
  congr 1
  refine List.ext_getElem (by simp [subD]) fun i q1 q2 => ?_
  have hi : i < h.n := by simpa [subD] using q2
  rw [List.getElem_set]
  by_cases e : x = i
  · subst e
    rw [if_pos rfl]
    simp [subD, hc]
    omega
  · rw [if_neg e]
    have : List.count i [x] = 0 := List.count_eq_zero.mpr (by simp; omega)
    simp [subD, this]
theorem rings_freed_run {h : Hx} (ok : Ok h) : K36.m_rings_freed [h.d] = some (0, (keep h).d) := by
  refine def_of rfl (d_box _) fun Q hQ => ?_
  unfold K36.b_rings_freed
  have h12 := ok.nc
  have h12' : h.n ≤ 1000000 := by omega
  have hm := reached_run ok
  have hr := counts_run ok
  simp only [Hx.d] at hm hr
  simp [Hx.d, enum_tab, hm, hr, lstOf_t]
  refine wp_tab h.n (fun i => D.tup [.int (i : Nat), cd (h.c i)]) (fun m ρ => ∃ x y z, ρ = [some (0, h.d), some (0, .tup (h.rs.map Fd.d)), some (0, h.cds), some (0, .tup ((sortN h.met).map IN)), some (1, .lst (subD h (dl h m))), x, y, z]) rfl ⟨none, none, none, by simp [Hx.d, subD_nil, dl]⟩ ?_ ?_
  · rintro a ρ ha ⟨x, y, z, rfl⟩
    have hh := held_run (h.c a) (ok.sz a ha)
    by_cases hm : a ∈ h.met
    · simp [sortN_mem, hm, dl]
    · simp [sortN_mem, hm, hh]
      refine wp_for (inj := IN) (held (h.c a)) (fun pre ρ => ∃ z, ρ = [some (0, h.d), some (0, .tup (h.rs.map Fd.d)), some (0, h.cds), some (0, .tup ((sortN h.met).map IN)), some (1, .lst (subD h (dl h a ++ pre))), some (0, .int (a : Int)), some (0, cd (h.c a)), z]) rfl ⟨z, by simp⟩ ?_ ?_
      · rintro pre b post ρ hp ⟨z, rfl⟩
        obtain ⟨hb, fs, hfs⟩ := held_live ok ha (show b ∈ held (h.c a) by rw [hp]; simp)
        have hc : cntO h b = some (cnt h b) := by simp [cntO, hfs]
        simp
        refine wp_augIx (k := 0) (l := 0) (n := (b : Int)) (m := 1) rfl (by simp) rfl (by rw [atI_n, sub_at hb, hc]; rfl) (sub_set hb hc) ?_
        exact ⟨_, by simp [List.append_assoc]; rfl⟩
      · rintro ρ ⟨z, rfl⟩
        simp [dl, hm]
  · rintro ρ ⟨x, y, z, rfl⟩
    have hf : K36.m_free_at_nought [h.cds, .lst (subD h (dl h h.n))] = some (0, (keep h).cds) := by
      refine def_of rfl (cds_box (keep h)) fun Q hQ => ?_
      unfold K36.b_free_at_nought
      simp [subD, zip_same, h12']
      rw [comp_map fun i => cd ((keep h).c i)]
      · simp
        exact hQ _
      · intro i hi
        show elemR _ _ _ _ _ _ = some (some (cd (if i ∈ h.met then h.c i else none)))
        obtain ⟨c1, c2⟩ := cnt_dl ok i
        cases hc : h.c i with
        | none =>
          have e : cntO h i = none := by simp [cntO, hc]
          simp [e, hc]
        | some fs =>
          have e : cntO h i = some (cnt h i) := by simp [cntO, hc]
          by_cases hm : i ∈ h.met
          · have : ¬ ((cnt h i : Int) - (List.count i (dl h h.n) : Nat) = 0) := fun z => (c2.mp (by omega)) hm
            simp [e, hm, this]
          · have := c2.mpr hm
            have : ((cnt h i : Int) - (List.count i (dl h h.n) : Nat) = 0) := by omega
            simp [e, hm, this]
    simp [hf]
    exact hQ _
/-! copied -/
def idx (L : List Nat) (a : Nat) : Nat := L.idxOf a
def ren (L : List Nat) : Fd → Fd
  | .ln a => .ln (idx L a)
  | f => f
def copyD (h : Hx) : D := .tup [.tup (h.rs.map fun f => (ren h.met f).d), .tup (h.met.map fun a => cd ((h.c a).map fun fs => fs.map (ren h.met)))]
def nmD (L : List Nat) : List (List Key × D) := L.zipIdx.map fun p => ([.inl (p.1 : Int)], IN p.2)
theorem nm_val_aux {a : Nat} : ∀ (L : List Nat) (s : Nat), a ∈ L → valD (L.zipIdx s |>.map fun p => ([Sum.inl (p.1 : Int)], IN p.2)) [.inl (a : Int)] = some (IN (s + idx L a))
  | [], _, h => by cases h
  | x :: L, s, h => by
    rw [List.zipIdx_cons, List.map_cons]
    unfold valD idx
    by_cases e : x = a
    · subst e
      simp
    · have e2 : ¬ ([(Sum.inl (x : Int) : Key)] = [Sum.inl (a : Int)]) := fun z => e (by
        have := Sum.inl.inj (List.cons.inj z).1
        omega)
      rw [if_neg e2, nm_val_aux L (s + 1) (by rcases List.mem_cons.mp h with q | q; exact absurd q.symm e; exact q)]
      rw [List.idxOf_cons]
      have : (x == a) = false := beq_eq_false_iff_ne.mpr e
      rw [this]
      show some (IN (s + 1 + List.idxOf a L)) = some (IN (s + (List.idxOf a L + 1)))
      congr 2
      omega
theorem nm_val {a : Nat} {L : List Nat} (h : a ∈ L) : valD (nmD L) [.inl (a : Int)] = some (IN (idx L a)) := by
  have := nm_val_aux L 0 h
  rw [Nat.zero_add] at this
  exact this
theorem nm_none {a : Nat} : ∀ {L : List Nat} {s : Nat}, a ∉ L → valD (L.zipIdx s |>.map fun p => ([Sum.inl (p.1 : Int)], IN p.2)) [.inl (a : Int)] = none
  | [], _, _ => rfl
  | x :: L, s, h => by
    rw [List.zipIdx_cons, List.map_cons]
    unfold valD
    have e2 : ¬ ([(Sum.inl (x : Int) : Key)] = [Sum.inl (a : Int)]) := fun z => h (by
      have := Sum.inl.inj (List.cons.inj z).1
      have : x = a := by omega
      rw [this]; exact List.mem_cons_self)
    rw [if_neg e2, nm_none fun q => h (List.mem_cons_of_mem _ q)]
end HP
set_option Elab.async false
set_option linter.all false
set_option maxRecDepth 100000
/-! H6: copied, the same -/
namespace HP
open PySem L2 Pv
theorem nm_nodup {L : List Nat} (nd : L.Nodup) : ((L.zipIdx).map fun p : Nat × Nat => (Sum.inl (p.1 : Int) : Key)).Nodup := by
  have e : ∀ (L : List Nat) (s : Nat), ((L.zipIdx s).map fun p : Nat × Nat => (Sum.inl (p.1 : Int) : Key)) = L.map fun a : Nat => (Sum.inl (a : Int) : Key) := by
    intro L
    induction L with
    | nil => intro s; rfl
    | cons x L ih => intro s; rw [List.zipIdx_cons, List.map_cons, List.map_cons, ih]
  have e := e L 0
  rw [e]
  refine List.Pairwise.map _ (fun a b h z => h ?_) nd
  have := Sum.inl.inj z
  omega
theorem ren_d {L : List Nat} (f : Fd) (hl : ∀ a, f = .ln a → a ∈ L) : (match f with | .ln a => (valD (nmD L) [.inl (a : Int)]) | f => some f.d) = some (ren L f).d := by
  cases f with
  | no => rfl
  | nu i => rfl
  | ln a => exact nm_val (hl a rfl)
def copyRs (h : Hx) : List Fd := h.rs.map (ren h.met)
def copyCs (h : Hx) : List Cell := h.met.map fun a => (h.c a).map fun fs => fs.map (ren h.met)
def copyD' (h : Hx) : D := .tup [.tup ((copyRs h).map Fd.d), .tup ((copyCs h).map cd)]
theorem fd_lay (n : Nat) (f : Fd) : layD (n + 1) f.d = true := by
  cases f with
  | no => rfl
  | ln a => rfl
  | nu i =>
    show (layD n (.str "num") && (layD n (.int i) && layDs n [])) = true
    have h1 : layD n (.str "num") = true := by
      have : PyData.strOk "num" = true := by decide +kernel
      cases n <;> exact this
    have h2 : layD n (.int i) = true := by cases n <;> rfl
    have h3 : layDs n [] = true := by cases n <;> rfl
    rw [h1, h2, h3]; rfl
theorem cd_lay (n : Nat) (c : Cell) : layD (n + 2) (cd c) = true := by
  cases c with
  | none => rfl
  | some fs => exact layDs_all fun d hd => by obtain ⟨f, _, rfl⟩ := List.mem_map.mp hd; exact fd_lay n f
theorem copy_lay (h : Hx) : layD 64 (copyD' h) = true := by
  refine layDs_all fun d hd => ?_
  rcases List.mem_cons.mp hd with rfl | hd
  · exact layDs_all fun d hd => by obtain ⟨f, _, rfl⟩ := List.mem_map.mp hd; exact fd_lay 61 f
  · rcases List.mem_cons.mp hd with rfl | hd
    · exact layDs_all fun d hd => by obtain ⟨f, _, rfl⟩ := List.mem_map.mp hd; exact cd_lay 60 f
    · cases hd
theorem copy_box (h : Hx) : noBox (copyD' h) = true := by
  have h1 : noBoxs ((copyRs h).map Fd.d) = true := noBoxs_all fun d hd => by obtain ⟨f, _, rfl⟩ := List.mem_map.mp hd; exact fd_box f
  have h2 : noBoxs ((copyCs h).map cd) = true := noBoxs_all fun d hd => by obtain ⟨f, _, rfl⟩ := List.mem_map.mp hd; exact cd_box f
  show (noBoxs ((copyRs h).map Fd.d) && (noBoxs ((copyCs h).map cd) && true)) = true
  rw [h1, h2]; rfl
theorem moved_run {h : Hx} (ok : Ok h) : K36.m_moved [h.d, .lst (h.met.map IN)] = some (0, copyD' h) := by
  refine def_of rfl (copy_box h) fun Q hQ => ?_
  unfold K36.b_moved
  have h4 := ok.nr
  have h12 := ok.nc
  have hml := met_len ok
  have hml' : h.met.length ≤ 1000000 := by omega
  have hrl : h.rs.length ≤ 1000000 := by omega
  obtain ⟨nd, lv⟩ := met_lt ok
  obtain ⟨k1, k2, k3⟩ := met_key ok
  simp [Hx.d, enum_map, hml']
  rw [compD_map (fun p : Nat × Nat => (Sum.inl (p.1 : Int) : Key)) (fun p => IN p.2) (nm_nodup nd) (fun _ _ => rfl) (by intro p hp; simp [elDB_s])]
  have e : ([] ++ (h.met.zipIdx.map fun p : Nat × Nat => ([(Sum.inl (p.1 : Int) : Key)], IN p.2))) = nmD h.met := rfl
  rw [e]
  simp [hml']
  rw [comp_map fun a => cd ((h.c a).map fun fs => fs.map (ren h.met))]
  · simp [hrl]
    rw [comp_map fun f => (ren h.met f).d]
    · simp
      have e2 : D.tup [D.tup (h.rs.map fun f => (ren h.met f).d), D.tup (h.met.map fun a => cd ((h.c a).map fun fs => fs.map (ren h.met)))] = copyD' h := by
        unfold copyD' copyRs copyCs
        rw [List.map_map, List.map_map]; rfl
      rw [e2]
      exact hQ _
    · intro f hf
      cases f with
      | no => simp [ren]
      | nu i => exact absurd hf (ok.rn i)
      | ln a =>
        have := nm_val (k3 a (mem_addrs.mpr hf))
        simp [ren, this]
  · intro a ha
    obtain ⟨ha1, fs, hfs⟩ := lv a ha
    have hl := (ok.sz a ha1 fs hfs).2
    have hl' : fs.length ≤ 1000000 := by omega
    simp [ix_cds ha1, hfs, hl']
    rw [comp_map fun f => (ren h.met f).d]
    · simp
    · intro f hf
      cases f with
      | no => simp [ren]
      | nu i => simp [ren]
      | ln b =>
        have := nm_val (k1 a ha b (by rw [hfs]; exact mem_addrs.mpr hf))
        simp [ren, this]
theorem copied_run {h : Hx} (ok : Ok h) : K36.m_copied_heap [h.d] = some (0, copyD' h) := by
  refine def_of rfl (copy_box h) fun Q hQ => ?_
  unfold K36.b_copied_heap
  have hm := met_cells_run ok
  have hr := moved_run ok
  simp only [Hx.d] at hr
  simp [Hx.d, hm, hr]
  exact hQ _
theorem copy_keep {h : Hx} (ok : Ok h) : copyD' (keep h) = copyD' h := by
  unfold copyD' copyRs copyCs
  rw [keep_met ok]
  congr 4
  refine congrArg (List.map cd) (List.map_congr_left fun a ha => ?_)
  show Option.map _ (if a ∈ h.met then h.c a else none) = _
  rw [if_pos ha]
/-! the same -/
def pr (f : Fd) : D := .tup [f.d, f.d]
def visD (vis : List Nat) : List (List Key × D) := vis.map fun a : Nat => ([.inl (a : Int)], IN a)
theorem vis_val {a : Nat} : ∀ {vis : List Nat}, valD (visD vis) [.inl (a : Int)] = if a ∈ vis then some (IN a) else none
  | [] => rfl
  | x :: vis => by
    show valD (([.inl (x : Int)], IN x) :: visD vis) _ = _
    unfold valD
    by_cases e : x = a
    · subst e; simp
    · have e2 : ¬ ([(Sum.inl (x : Int) : Key)] = [Sum.inl (a : Int)]) := fun z => e (by
        have := Sum.inl.inj (List.cons.inj z).1
        omega)
      rw [if_neg e2, vis_val]
      have : (a ∈ x :: vis) ↔ a ∈ vis := by simp; intro q; exact absurd q.symm e
      by_cases q : a ∈ vis
      · rw [if_pos q, if_pos (this.mpr q)]
      · rw [if_neg q, if_neg (fun z => q (this.mp z))]
theorem vis_put {a : Nat} {vis : List Nat} (h : a ∉ vis) : putD (visD vis) [.inl (a : Int)] (.int (a : Int)) = visD (vis ++ [a]) := by
  unfold putD
  rw [vis_val, if_neg h]
  simp [visD]
theorem emp_app {xs : List D} {d : D} : (xs ++ [d]).isEmpty = false := by cases xs <;> rfl
theorem ne_nu (k l : Nat) (i : Int) : gNe (k, (Fd.nu i).d) (l, (Fd.nu i).d) = some (0, .bl false) := (eq_tup (fd_lay 63 (.nu i))).2
theorem same_run {h : Hx} (ok : Ok h) : K36.m_same_heap [h.d, (keep h).d] = some (0, .bl true) := by
  refine def_of rfl rfl fun Q hQ => ?_
  unfold K36.b_same_heap
  have h4 := ok.nr
  have h12 := ok.nc
  have hrl : h.rs.length ≤ 1000000 := by omega
  obtain ⟨nd, lv⟩ := met_lt ok
  obtain ⟨k1, k2, k3⟩ := met_key ok
  have ek : (keep h).rs = h.rs := rfl
  simp [ek, Hx.d, hrl, zip_same]
  refine wp_while (fun m ρ => ∃ (w : List Fd) (vis : List Nat) (x y z u : Option W), m = w.length + 5 * (h.n - vis.length) ∧ m ≤ 64 ∧ vis.Nodup ∧ (∀ a ∈ vis, a ∈ h.met) ∧ (∀ a, Fd.ln a ∈ w → a ∈ h.met) ∧
    ρ = [some (0, h.d), some (0, (keep h).d), some (1, .dct false (visD vis)), some (1, .dct false (visD vis)), some (1, .lst (w.map pr)), x, y, z, u]) ⟨h.rs, [], none, none, none, none, rfl, by show h.rs.length + 5 * (h.n - 0) ≤ 64; omega, List.nodup_nil, (fun a h => by cases h), (fun a ha => k3 a (mem_addrs.mpr ha)), rfl⟩ (by show h.rs.length + 5 * (h.n - 0) < 1000000; omega) ?_
  rintro m ρ ⟨w, vis, x, y, z, u, rfl, hm, ndv, hv, hw, rfl⟩
  rcases List.eq_nil_or_concat w with rfl | ⟨w', f, rfl⟩
  · simp
    exact hQ _
  · have hw' : ∀ a, Fd.ln a ∈ w' → a ∈ h.met := fun a ha => hw a (by simp [ha])
    have hlen : (w' ++ [f]).length = w'.length + 1 := by simp
    rw [List.concat_eq_append] at *
    cases f with
    | no =>
      simp [List.map_append, pr, emp_app, Fd.isLn]
      exact ⟨w'.length + 5 * (h.n - vis.length), by omega, w', vis, rfl, by simp at hm; omega, ndv, hv, hw', rfl, rfl⟩
    | nu i =>
      have := ne_nu 0 0 i
      simp only [Fd.d_nu] at this
      simp [List.map_append, pr, emp_app, Fd.isLn, this]
      exact ⟨w'.length + 5 * (h.n - vis.length), by omega, w', vis, rfl, by simp at hm; omega, ndv, hv, hw', rfl, rfl⟩
    | ln a =>
      have ham : a ∈ h.met := hw a (by simp)
      obtain ⟨ha1, fs, hfs⟩ := lv a ham
      have hl := (ok.sz a ha1 fs hfs).2
      have hl' : fs.length ≤ 1000000 := by omega
      by_cases hav : a ∈ vis
      · simp [List.map_append, pr, emp_app, Fd.isLn, vis_val, hav]
        exact ⟨w'.length + 5 * (h.n - vis.length), by omega, w', vis, rfl, by simp at hm; omega, ndv, hv, hw', rfl, rfl⟩
      · have nd2 : (vis ++ [a]).Nodup := List.nodup_append.mpr ⟨ndv, by simp, fun x hx y hy e => by simp at hy; exact hav (by rw [← hy, ← e]; exact hx)⟩
        have hvl := nodup_le (n := h.n) nd2 fun b hb => by
          rcases List.mem_append.mp hb with q | q
          · exact (lv b (hv b q)).1
          · simp at q; rw [q]; exact ha1
        simp at hvl hm
        have hkn : a < (keep h).n := ha1
        have hkc : (keep h).c a = some fs := by show (if a ∈ h.met then h.c a else none) = _; rw [if_pos ham, hfs]
        have hvl2 : vis.length < 1000000 := by omega
        have hvl3 : (visD vis).length < 1000000 := by simp [visD]; omega
        have hwl : w'.length + fs.length ≤ 1000000 := by omega
        simp [List.map_append, pr, emp_app, Fd.isLn, vis_val, hav, vis_put, Pv.big, hvl3, Hx.d, ek, ix_cds ha1, ix_cds hkn, hfs, hkc, hl', zip_same, hwl]
        refine ⟨w'.length + fs.length + 5 * (h.n - (vis.length + 1)), by omega, w' ++ fs, vis ++ [a], by simp, by omega, nd2, fun b hb => ?_, fun b hb => ?_, rfl, by simp [pr]⟩
        · rcases List.mem_append.mp hb with q | q
          · exact hv b q
          · simp at q; rw [q]; exact ham
        · rcases List.mem_append.mp hb with q | q
          · exact hw' b q
          · exact k1 a ham b (by rw [hfs]; exact mem_addrs.mpr q)
end HP
set_option Elab.async false
set_option linter.all false
set_option maxRecDepth 100000
/-! H7: the law's rings -/
namespace HP
open PySem L2 Pv
theorem like_eq : K36.m_law_like = CL.m_law_like := rfl
theorem like {x : D} (h : CL.likeOk 5 x = true) : K36.m_law_like [x, x] = some (0, .bl true) := CL.like x h
section
variable {h : Hx} {k l : Nat}
@[simp] theorem ix_d0 : gIx (k, h.d) (l, .int 0) = some (0, .tup (h.rs.map Fd.d)) := by unfold Hx.d; simp
@[simp] theorem ix_d1 : gIx (k, h.d) (l, .int 1) = some (0, h.cds) := by unfold Hx.d; simp
@[simp] theorem box_hd : isBox h.d = false := rfl
theorem d_fold {f : Nat → Cell} : D.tup [.tup (h.rs.map Fd.d), .tup ((List.range h.n).map fun i => cd (f i))] = (Hx.mk h.rs h.n f).d := rfl
end
theorem likeOk_all {n : Nat} {ds : List D} (hl : ds.length ≤ 1000) (h : ∀ d ∈ ds, CL.likeOk n d = true) : CL.likeOk (n + 1) (.tup ds) = true := by
  show (decide (ds.length ≤ 1000) && ds.all (CL.likeOk n)) = true
  rw [decide_eq_true hl, List.all_eq_true.mpr h]; rfl
theorem like_IN (n : Nat) (xs : List Nat) (h : xs.length ≤ 1000) : CL.likeOk (n + 1) (.tup (xs.map IN)) = true := likeOk_all (by simpa using h) fun d hd => by
  obtain ⟨i, _, rfl⟩ := List.mem_map.mp hd
  cases n <;> rfl
theorem like_fd (n : Nat) (f : Fd) : CL.likeOk (n + 1) f.d = true := by
  cases f with
  | no => rfl
  | ln a => rfl
  | nu i =>
    exact likeOk_all (by simp) fun d hd => by
      simp at hd
      rcases hd with rfl | rfl <;> cases n <;> rfl
theorem like_cd (n : Nat) {c : Cell} (hz : Sz c) : CL.likeOk (n + 2) (cd c) = true := by
  cases c with
  | none => rfl
  | some fs =>
    exact likeOk_all (by have := (hz fs rfl).2; simp; omega) fun d hd => by
      obtain ⟨f, _, rfl⟩ := List.mem_map.mp hd
      exact like_fd n f
theorem like_hd {h : Hx} (ok : Ok h) : CL.likeOk 5 h.d = true := by
  refine likeOk_all (by simp) fun d hd => ?_
  have h4 := ok.nr
  have h12 := ok.nc
  simp at hd
  rcases hd with rfl | rfl
  · exact likeOk_all (by simp; omega) fun d hd => by
      obtain ⟨f, _, rfl⟩ := List.mem_map.mp hd
      exact like_fd 2 f
  · exact likeOk_all (by simp; omega) fun d hd => by
      obtain ⟨i, hi, rfl⟩ := List.mem_map.mp hd
      exact like_cd 1 (ok.sz i (List.mem_range.mp hi))
theorem like_cnt {h : Hx} (ok : Ok h) : CL.likeOk 5 (.tup (cntD h)) = true := by
  have h12 := ok.nc
  refine likeOk_all (by rw [len_cnt]; omega) fun d hd => ?_
  obtain ⟨i, _, rfl⟩ := List.mem_map.mp hd
  cases cntO h i <;> rfl
theorem keep_fix {h : Hx} (ok : Ok h) : fixd (keep h) := by
  intro i hi e
  obtain ⟨h1, h2⟩ := cntO_0.mp e
  cases hc : (keep h).c i with
  | none => rw [hc] at h1; cases h1
  | some fs =>
    obtain ⟨hm, _⟩ := keep_c hc
    have hm2 : i ∈ (keep h).met := by rw [keep_met ok]; exact hm
    have okk := keep_ok ok
    refine h2 (links_mem.mpr ?_)
    rcases (met_iff okk).mp hm2 with q | ⟨m, q1, q2⟩
    · exact .inl q
    · exact .inr ⟨m, ((met_lt okk).2 m q1).1, q2⟩
def unmet (h : Hx) : List Nat := (List.range h.n).filter fun i => (h.c i).isSome && !decide (i ∈ h.met)
theorem unmet_keep {h : Hx} (ok : Ok h) : unmet (keep h) = [] := by
  refine List.filter_eq_nil_iff.mpr fun i hi => ?_
  rw [keep_met ok]
  show ¬ ((if i ∈ h.met then h.c i else none).isSome && !decide (i ∈ h.met)) = true
  by_cases q : i ∈ h.met
  · simp [q]
  · simp [q]
theorem law_rings_run {h : Hx} (ok : Ok h) (f : fixd h) : K36.m_law_rings [h.d] = some (0, .bl true) := by
  refine def_of rfl rfl fun Q hQ => ?_
  unfold K36.b_law_rings
  have okk := keep_ok ok
  have h12 := ok.nc
  have h12' : h.n ≤ 1000000 := by omega
  have h12a : h.n ≤ 1000000000 := by omega
  have r1 := law_met_run ok
  have r2 := law_counts_run ok
  have r3 := counts_run ok
  have r4 := like (like_cnt ok)
  have r5 := reached_run ok
  have hml := met_len ok
  have r6 := like (like_IN 4 (sortN h.met) (by rw [sortN_len]; omega))
  have r7 := rings_left_run ok f
  have hul : (unmet h).length ≤ 1000 := by
    have := List.length_filter_le (fun i => (h.c i).isSome && !decide (i ∈ h.met)) (List.range h.n)
    simp at this
    unfold unmet; omega
  have r8 := like (like_IN 4 (unmet h) hul)
  have r9 := rings_freed_run ok
  have r10 := like (like_hd okk)
  have r11 := swept_run ok
  have r12 := counts_run okk
  have r13 := law_counts_run okk
  have r14 := like (like_cnt okk)
  have r15 := rings_left_run okk (keep_fix ok)
  have r16 := rings_freed_run okk
  rw [keep_keep ok] at r16
  have r17 := copied_run ok
  have r18 := copied_run okk
  rw [copy_keep ok] at r18
  have r19 := same_run ok
  have r20 : gEq (0, copyD' h) (0, copyD' h) = some (0, .bl true) := (eq_tup (copy_lay h)).1
  have r21 : K36.m_law_like [.tup [], .tup []] = some (0, .bl true) := like rfl
  have e15 : ((List.range (keep h).n).filter fun i => ((keep h).c i).isSome && !decide (i ∈ (keep h).met)) = [] := unmet_keep ok
  rw [e15] at r15
  have r7' : K36.m_rings_left [h.d] = some (0, .tup ((unmet h).map IN)) := r7
  have hs := sorted_IN (k := 1) (xs := h.met) (by omega) (by omega)
  simp [r1, r2, r3, r4, r5, hs, r6, len_cnt, h12a, h12']
  rw [comp_fm (fun i => (h.c i).isSome && !decide (i ∈ h.met)) IN]
  · have e1 : ((List.range h.n).filter fun i => (h.c i).isSome && !decide (i ∈ h.met)) = unmet h := rfl
    rw [e1]
    simp [h12a, h12', len_cnt]
    rw [comp_map fun i => cd ((keep h).c i)]
    · simp
      rw [d_fold (h := h) (f := (keep h).c)]
      have e2 : (Hx.mk h.rs h.n (keep h).c) = keep h := rfl
      rw [e2]
      simp [r7', r8, r9, r10, r11, r12, r13, r14, r15, r16, r17, r18, r19, r20, r21]
      exact hQ _
    · intro i hi
      have hi' := List.mem_range.mp hi
      show elemR _ _ _ _ _ _ = some (some (cd (if i ∈ h.met then h.c i else none)))
      by_cases q : i ∈ h.met
      · simp [q, ix_cds hi']
      · simp [q, ix_cds hi']
  · intro i hi
    have hi' := List.mem_range.mp hi
    cases hc : h.c i with
    | none => simp [cnt_at hi', cntO, hc]
    | some fs => simp [cnt_at hi', cntO, hc]
end HP
set_option Elab.async false
set_option linter.all false
set_option maxRecDepth 100000
/-! H8: the heap of a row -/
namespace HP
open PySem L2 Pv
def rowD (m : Nat) (r : Nat → Nat) : D := .lst ((List.range m).map fun i => IN (r i))
theorem ix_row {m k l : Nat} {r : Nat → Nat} {z : Int} (hk : k ≤ 1) : gIx (k, rowD m r) (l, .int z) = if 0 ≤ z ∧ z < m then some (0, .int (r z.toNat : Nat)) else if 0 ≤ z then none else gIx (k, rowD m r) (l, .int z) := by
  by_cases h0 : 0 ≤ z
  · obtain ⟨n, rfl⟩ := Int.eq_ofNat_of_zero_le h0
    unfold rowD
    rw [Pv.ix_l, if_pos hk, atI_n]
    by_cases h : n < m
    · rw [if_pos ⟨h0, by omega⟩]; simp [h]
    · rw [if_neg (by omega), if_pos h0]; simp [h]
  · rw [if_neg (by omega), if_neg h0]
theorem ix_rowN {m k l : Nat} {r : Nat → Nat} {n : Nat} (hk : k ≤ 1) (hn : n < m) : gIx (k, rowD m r) (l, .int (n : Int)) = some (0, .int (r n : Nat)) := by
  rw [ix_row hk, if_pos ⟨by omega, by omega⟩]; simp
theorem ix_rowL {m k l : Nat} {r : Nat → Nat} (n : Nat) (hk : k ≤ 1) (hn : n < m) : gIx (k, rowD m r) (l, .int (OfNat.ofNat n)) = some (0, .int (r n : Nat)) := ix_rowN hk hn
def fieldP (live : List Nat) (c p : Nat) : Fd :=
  if p < live.length then .ln (live[p]?.getD 0) else if p = live.length then .no else .nu ((c : Int) / 31 % 9 - 4)
theorem fieldP_ln {live : List Nat} {c a p : Nat} (h : fieldP live c p = .ln a) : a ∈ live := by
  unfold fieldP at h
  split at h
  · rename_i hp
    cases h
    rw [List.getElem?_eq_getElem hp]
    exact List.getElem_mem hp
  · split at h <;> cases h
def fieldF (live : List Nat) (c : Nat) : Fd := fieldP live c (c % (2 * live.length + 3))
theorem field_ln {live : List Nat} {c a : Nat} (h : fieldF live c = .ln a) : a ∈ live := fieldP_ln h
theorem field_runP (live : List Nat) (c p : Nat) (e : (c : Int) % (2 * (live.length : Int) + 3) = (p : Int)) : K36.m_law_field [.int (c : Int), .lst (live.map IN)] = some (0, (fieldP live c p).d) := by
  refine def_of0 rfl (fd_box _) fun Q hQ => ?_
  unfold K36.b_law_field
  have h0 : (0 : Int) < 2 * (live.length : Int) + 3 := by omega
  have hq := hQ
  unfold fieldP at hq
  by_cases h1 : p < live.length
  · have hg := List.getElem?_eq_getElem h1
    simp -implicitDefEqProofs [h1, hg] at hq
    simp -implicitDefEqProofs [e, h0, h1, hg]
    exact hq _
  · by_cases h2 : p = live.length
    · simp -implicitDefEqProofs [h2] at hq
      simp -implicitDefEqProofs [e, h0, h2]
      exact hq _
    · have h2' : ¬ (p : Int) = (live.length : Int) := by omega
      simp -implicitDefEqProofs [h1, h2] at hq
      simp -implicitDefEqProofs [e, h0, h1, h2']
      exact hq _
theorem field_run (live : List Nat) (c : Nat) : K36.m_law_field [.int (c : Int), .lst (live.map IN)] = some (0, (fieldF live c).d) := field_runP live c _ (by simp)
theorem lt1 (n : Nat) : ((1 : Int) < (n : Int)) ↔ 1 < n := by omega
def shp (r : Nat → Nat) (i : Nat) : Nat := r i % 10
def liveL (r : Nat → Nat) (n : Nat) : List Nat := (List.range n).filter fun i => decide (1 < shp r i)
def cell0 (r : Nat → Nat) (n i : Nat) : List Fd := (List.range (1 + shp r i % 4)).map fun j => fieldF (liveL r n) (r (12 + 4 * i + j))
def root0 (r : Nat → Nat) (n k : Nat) : Fd := if h : r (61 + k) % ((liveL r n).length + 2) < (liveL r n).length then .ln (liveL r n)[r (61 + k) % ((liveL r n).length + 2)] else .no
def heap0 (r : Nat → Nat) (n : Nat) : Hx := ⟨(List.range (r 60 % 5)).map (root0 r n), n, fun i => if i < n ∧ 1 < shp r i then some (cell0 r n i) else none⟩
theorem liveL_mem {r : Nat → Nat} {n a : Nat} : a ∈ liveL r n ↔ a < n ∧ 1 < shp r a := by simp [liveL]
theorem heap0_ok {r : Nat → Nat} {n : Nat} (hn : n ≤ 10) : Ok (heap0 r n) := by
  have lv : ∀ a, a ∈ liveL r n → live (heap0 r n) a := fun a ha => by
    obtain ⟨h1, h2⟩ := liveL_mem.mp ha
    exact ⟨h1, cell0 r n a, if_pos ⟨h1, h2⟩⟩
  refine ⟨fun a ha => ?_, fun i hi => ?_, fun i fs hi e a ha => ?_, fun i hi fs e => ?_, by simp [heap0]; omega, by show n ≤ 12; omega, fun i hi => if_neg fun z => by have : n ≤ i := hi; omega⟩
  · obtain ⟨k, _, hk⟩ := List.mem_map.mp ha
    unfold root0 at hk
    split at hk
    · cases hk; exact lv _ (List.getElem_mem _)
    · cases hk
  · obtain ⟨k, _, hk⟩ := List.mem_map.mp hi
    unfold root0 at hk
    split at hk <;> cases hk
  · have e' : (if i < n ∧ 1 < shp r i then some (cell0 r n i) else none) = some fs := e
    split at e'
    · cases e'
      obtain ⟨j, _, hj⟩ := List.mem_map.mp ha
      exact lv a (field_ln hj)
    · cases e'
  · have e' : (if i < n ∧ 1 < shp r i then some (cell0 r n i) else none) = some fs := e
    split at e'
    · cases e'
      simp [cell0]; omega
    · cases e'
theorem law_heap_run (r : Nat → Nat) {n : Nat} (hn : n ≤ 10) : K36.m_law_heap [rowD 74 r, .int (n : Int)] = some (0, (heap0 r n).d) := by
  refine def_of0 rfl (d_box _) fun Q hQ => ?_
  unfold K36.b_law_heap
  have hn1 : n ≤ 1000000 := by omega
  have hn2 : n ≤ 1000000000 := by omega
  simp -implicitDefEqProofs [hn1, hn2]
  rw [comp_map fun i => IN (shp r i)]
  · simp -implicitDefEqProofs [hn1, hn2]
    rw [comp_fm (fun i => decide (1 < shp r i)) IN]
    · have e1 : ((List.range n).filter fun i => decide (1 < shp r i)) = liveL r n := rfl
      rw [e1]
      simp -implicitDefEqProofs [hn1, hn2]
      refine wp_range n (fun m ρ => ∃ x y, lvl0 (some y) = true ∧ ρ = [some (0, rowD 74 r), some (0, .int (n : Int)), some (1, .lst ((List.range n).map fun i => IN (shp r i))), some (1, .lst ((liveL r n).map IN)), some (1, .lst ((List.range m).map fun i => cd ((heap0 r n).c i))), x, y, none, none, none]) (by simp) ⟨none, none, rfl, rfl⟩ ?_ ?_
      · rintro m ρ hm ⟨x, y, hy, rfl⟩
        have e2 : 1 + (shp r m : Int) % 4 = ((1 + shp r m % 4 : Nat) : Int) := by simp
        have h3 : 1 + shp r m % 4 ≤ 1000000000 := by omega
        have h4 : 1 + shp r m % 4 ≤ 1000000 := by omega
        simp -implicitDefEqProofs [hm, e2, h3, h4, -Int.natCast_add]
        rw [comp_map fun j => (fieldF (liveL r n) (r (12 + 4 * m + j))).d]
        · have e3 : ((List.range (1 + shp r m % 4)).map fun j => (fieldF (liveL r n) (r (12 + 4 * m + j))).d) = (cell0 r n m).map Fd.d := by simp only [cell0, List.map_map, Function.comp_def]
          rw [e3]
          by_cases h1 : 1 < shp r m
          · have h1' : (1 : Int) < (shp r m : Int) := by omega
            simp -implicitDefEqProofs [h1, h1', hm, Pv.big]
            refine ⟨by omega, ?_⟩
            rw [List.range_succ]
            simp -implicitDefEqProofs [heap0, hm, h1]
          · have h1' : ¬ (1 : Int) < (shp r m : Int) := by omega
            simp -implicitDefEqProofs [h1, h1', hm, Pv.big]
            refine ⟨by omega, ?_⟩
            rw [List.range_succ]
            simp -implicitDefEqProofs [heap0, hm, h1]
        · intro j hj
          have hj' := List.mem_range.mp hj
          have e4 : 12 + 4 * (m : Int) + (j : Int) = ((12 + 4 * m + j : Nat) : Int) := by simp
          have h5 := ix_rowN (m := 74) (k := 0) (l := 0) (r := r) (n := 12 + 4 * m + j) (by omega) (by omega)
          simp -implicitDefEqProofs [e4, -Int.natCast_add, h5, field_run]
      · rintro ρ ⟨x, y, hy, rfl⟩
        have h60 := ix_rowL (m := 74) (k := 0) (l := 0) (r := r) 60 (by omega) (by omega)
        have e5 : (r 60 : Int) % 5 = ((r 60 % 5 : Nat) : Int) := by simp
        have h6 : r 60 % 5 ≤ 1000000000 := by omega
        simp -implicitDefEqProofs [h60, e5, h6, -Int.natCast_emod]
        refine wp_range (r 60 % 5) (fun m ρ => ∃ x z, ρ = [some (0, rowD 74 r), some (0, .int (n : Int)), some (1, .lst ((List.range n).map fun i => IN (shp r i))), some (1, .lst ((liveL r n).map IN)), some (1, .lst ((List.range n).map fun i => cd ((heap0 r n).c i))), x, y, some (1, .lst (((List.range m).map (root0 r n)).map Fd.d)), z, none]) (by simp) ⟨x, none, rfl⟩ ?_ ?_
        · rintro m ρ hm ⟨x, z, rfl⟩
          have e7 : 61 + (m : Int) = ((61 + m : Nat) : Int) := by simp
          have h7 := ix_rowN (m := 74) (k := 0) (l := 0) (r := r) (n := 61 + m) (by omega) (by omega)
          have e8 : (r (61 + m) : Int) % ((liveL r n).length + 2 : Int) = ((r (61 + m) % ((liveL r n).length + 2) : Nat) : Int) := by simp
          have h8 : (0 : Int) < ((liveL r n).length + 2 : Int) := by omega
          have hll : (liveL r n).length ≤ n := by
            have := List.length_filter_le (fun i => decide (1 < shp r i)) (List.range n)
            simpa [liveL] using this
          have h9 : (liveL r n).length + 2 ≤ 1000000 := by omega
          have h10 : r (61 + m) % ((liveL r n).length + 2) < (liveL r n).length + 2 := Nat.mod_lt _ (by omega)
          have h11 : ((liveL r n).map IN ++ [.non, .non])[r (61 + m) % ((liveL r n).length + 2)]? = some (root0 r n m).d := by
            unfold root0
            split
            · rename_i hlt
              rw [List.getElem?_append_left (by simpa using hlt)]
              simp -implicitDefEqProofs [hlt]
            · rename_i hlt
              rw [List.getElem?_append_right (by simp; omega)]
              have : r (61 + m) % ((liveL r n).length + 2) - ((liveL r n).map IN).length = 0 ∨ r (61 + m) % ((liveL r n).length + 2) - ((liveL r n).map IN).length = 1 := by simp; omega
              rcases this with q | q <;> rw [q] <;> rfl
          have hmm : m < 1000000 := by omega
          simp -implicitDefEqProofs [e7, h7, e8, h8, h9, -Int.natCast_add, -Int.natCast_emod, h11, Pv.big, hmm]
          rw [List.range_succ]; simp
        · rintro ρ ⟨x, z, rfl⟩
          simp
          have e9 : D.tup [D.tup (List.map (Fd.d ∘ root0 r n) (List.range (r 60 % 5))), D.tup (List.map (fun i => cd ((heap0 r n).c i)) (List.range n))] = (heap0 r n).d := by
            unfold Hx.d Hx.cds heap0
            rw [List.map_map]
          rw [e9]
          exact hQ _
    · intro i hi
      have hi' := List.mem_range.mp hi
      simp -implicitDefEqProofs [hi', lt1]
  · intro i hi
    have hi' := List.mem_range.mp hi
    have h := ix_rowN (m := 74) (k := 0) (l := 0) (r := r) (n := i) (by omega) (by omega)
    simp -implicitDefEqProofs [h, shp]
end HP
set_option Elab.async false
set_option linter.all false
set_option maxRecDepth 100000
/-! H9: ringed, a heap -/
namespace HP
open PySem L2 Pv
def ext (h : Hx) (ring : List (List Fd)) : Hx := ⟨h.rs, h.n + ring.length, fun i => if i < h.n then h.c i else ring[i - h.n]?⟩
def upd (h : Hx) (p : Nat) (fs : List Fd) : Hx := ⟨h.rs, h.n, fun i => if i = p then some fs else h.c i⟩
def addRoot (h : Hx) (a : Nat) : Hx := ⟨h.rs ++ [.ln a], h.n, h.c⟩
theorem ext_live {h : Hx} {ring : List (List Fd)} {a : Nat} (ha : a < h.n + ring.length) (hl : a < h.n → live h a) : live (ext h ring) a := by
  refine ⟨ha, ?_⟩
  show ∃ fs, (if a < h.n then h.c a else ring[a - h.n]?) = some fs
  by_cases q : a < h.n
  · rw [if_pos q]; exact (hl q).2
  · rw [if_neg q]; exact ⟨ring[a - h.n], List.getElem?_eq_getElem (by omega)⟩
theorem ext_ok {h : Hx} (ok : Ok h) {ring : List (List Fd)} (hn : h.n + ring.length ≤ 12) (hr : ∀ fs ∈ ring, (1 ≤ fs.length ∧ fs.length ≤ 4) ∧ ∀ a, Fd.ln a ∈ fs → h.n ≤ a ∧ a < h.n + ring.length) : Ok (ext h ring) := by
  have cc : ∀ i fs, (ext h ring).c i = some fs → (i < h.n ∧ h.c i = some fs) ∨ fs ∈ ring := fun i fs e => by
    have e' : (if i < h.n then h.c i else ring[i - h.n]?) = some fs := e
    split at e'
    · exact .inl ⟨‹_›, e'⟩
    · exact .inr (List.mem_of_getElem? e')
  refine ⟨fun a ha => ?_, ok.rn, fun i fs hi e a ha => ?_, fun i hi fs e => ?_, ok.nr, hn, fun i hi => ?_⟩
  · have := ok.rl a ha
    exact ext_live (by have := this.1; omega) fun _ => this
  · rcases cc i fs e with ⟨h1, h2⟩ | h1
    · have := ok.cl i fs h1 h2 a ha
      exact ext_live (by have := this.1; omega) fun _ => this
    · have := (hr fs h1).2 a ha
      exact ext_live this.2 fun q => absurd q (by omega)
  · rcases cc i fs e with ⟨h1, h2⟩ | h1
    · exact ok.sz i h1 fs h2
    · exact (hr fs h1).1
  · show (if i < h.n then h.c i else ring[i - h.n]?) = none
    have : h.n + ring.length ≤ i := hi
    rw [if_neg (by omega), List.getElem?_eq_none (by omega)]
theorem upd_ok {h : Hx} (ok : Ok h) {p : Nat} {fs : List Fd} (hp : p < h.n) (hs : 1 ≤ fs.length ∧ fs.length ≤ 4) (hl : ∀ a, Fd.ln a ∈ fs → live h a) : Ok (upd h p fs) := by
  have lv : ∀ a, live h a → live (upd h p fs) a := fun a ⟨h1, gs, h2⟩ => ⟨h1, by
    show ∃ fs', (if a = p then some fs else h.c a) = some fs'
    split
    · exact ⟨_, rfl⟩
    · exact ⟨gs, h2⟩⟩
  refine ⟨fun a ha => lv a (ok.rl a ha), ok.rn, fun i gs hi e a ha => ?_, fun i hi gs e => ?_, ok.nr, ok.nc, fun i hi => ?_⟩
  · have e' : (if i = p then some fs else h.c i) = some gs := e
    split at e'
    · cases e'; exact lv a (hl a ha)
    · exact lv a (ok.cl i gs hi e' a ha)
  · have e' : (if i = p then some fs else h.c i) = some gs := e
    split at e'
    · cases e'; exact hs
    · exact ok.sz i hi gs e'
  · show (if i = p then some fs else h.c i) = none
    have : h.n ≤ i := hi
    rw [if_neg (by omega), ok.ou i hi]
theorem addRoot_ok {h : Hx} (ok : Ok h) {a : Nat} (ha : live h a) (hl : h.rs.length < 4) : Ok (addRoot h a) := by
  refine ⟨fun b hb => ?_, fun i hi => ?_, ok.cl, ok.sz, ?_, ok.nc, ok.ou⟩
  · have : Fd.ln b ∈ h.rs ++ [.ln a] := hb
    simp at this
    rcases this with q | q
    · exact ok.rl b q
    · rw [q]; exact ha
  · have : Fd.nu i ∈ h.rs ++ [.ln a] := hi
    simp at this
    exact ok.rn i this
  · show (h.rs ++ [Fd.ln a]).length ≤ 4
    simp; omega
theorem ext_cds (h : Hx) (ring : List (List Fd)) : (ext h ring).cds = .tup (((List.range h.n).map fun i => cd (h.c i)) ++ ring.map fun fs => D.tup (fs.map Fd.d)) := by
  unfold Hx.cds
  congr 1
  refine List.ext_getElem (by simp [ext]) fun i h1 h2 => ?_
  simp [ext] at h1
  by_cases q : i < h.n
  · rw [List.getElem_append_left (by simpa using q)]
    simp [ext, q]
  · rw [List.getElem_append_right (by simpa using q)]
    have : i - h.n < ring.length := by omega
    simp [ext, q, this]
theorem add_cds {h : Hx} (ring : List (List Fd)) {k l : Nat} (hs : h.n + ring.length ≤ 1000) : gAdd (k, h.cds) (l, .tup (ring.map fun fs => D.tup (fs.map Fd.d))) = some (0, (ext h ring).cds) := by
  rw [ext_cds, cds_d, add_t, if_pos (by simp; omega)]
theorem upd_cds (h : Hx) (p : Nat) (fs : List Fd) (hp : p < h.n) : (upd h p fs).cds = .tup ((((List.range h.n).map fun i => cd (h.c i)).take p ++ [D.tup (fs.map Fd.d)]) ++ ((List.range h.n).map fun i => cd (h.c i)).drop (p + 1)) := by
  unfold Hx.cds
  congr 1
  refine List.ext_getElem (by simp [upd]; omega) fun i h1 h2 => ?_
  simp [upd] at h1
  by_cases q : i < p
  · rw [List.getElem_append_left (by simp; omega), List.getElem_append_left (by simp; omega)]
    have : ¬ i = p := by omega
    simp [upd, this]
  · by_cases q2 : i = p
    · subst q2
      rw [List.getElem_append_left (by simp; omega), List.getElem_append_right (by simp; omega)]
      simp [upd]
    · rw [List.getElem_append_right (by simp; omega)]
      have e : p + 1 + (i - (((List.range h.n).map fun i => cd (h.c i)).take p ++ [D.tup (fs.map Fd.d)]).length) = i := by simp; omega
      simp [upd, q2]
      congr 2
      omega
theorem take_cds {h : Hx} {k : Nat} {p : Nat} : gSl (k, h.cds) none (some (p : Int)) = some (0, .tup (((List.range h.n).map fun i => cd (h.c i)).take p)) := by
  rw [cds_d, sl_t, cut_take]
theorem drop_cds {h : Hx} {k : Nat} {p : Nat} : gSl (k, h.cds) (some (p : Int)) none = some (0, .tup (((List.range h.n).map fun i => cd (h.c i)).drop p)) := by
  rw [cds_d, sl_t, cut_drop]
def someL (h : Hx) : List Nat := (List.range h.n).filter fun i => (h.c i).isSome
theorem someL_mem {h : Hx} {a : Nat} : a ∈ someL h ↔ live h a := by
  unfold someL live
  simp [Option.isSome_iff_exists]
theorem ringed_run (r : Nat → Nat) {h : Hx} (ok : Ok h) (hn : h.n ≤ 9) : ∃ g, Ok g ∧ K36.m_law_ringed [rowD 74 r, h.d] = some (0, g.d) := by
  have h4 := ok.nr
  have h66 := ix_rowL (m := 74) (k := 0) (l := 0) (r := r) 66 (by omega) (by omega)
  have h67 := ix_rowL (m := 74) (k := 0) (l := 0) (r := r) 67 (by omega) (by omega)
  have h68 := ix_rowL (m := 74) (k := 0) (l := 0) (r := r) 68 (by omega) (by omega)
  have h69 := ix_rowL (m := 74) (k := 0) (l := 0) (r := r) 69 (by omega) (by omega)
  have hn1 : h.n ≤ 1000000 := by omega
  have hn2 : h.n ≤ 1000000000 := by omega
  have hd : ∀ g : Hx, D.tup [D.tup (g.rs.map Fd.d), g.cds] = g.d := fun g => rfl
  let R1 : List (List Fd) := [[.ln h.n, .ln (h.n + 1)], [.nu ((r 67 : Int) % 5), .no]]
  let R3 : List (List Fd) := [[.no, .ln (h.n + 1)], [.ln h.n, .ln (h.n + 2)], [.nu ((r 67 : Int) % 5)]]
  have a1 := add_cds (h := h) R1 (k := 0) (l := 0) (by show h.n + 2 ≤ 1000; omega)
  have a3 := add_cds (h := h) R3 (k := 0) (l := 0) (by show h.n + 3 ≤ 1000; omega)
  have ok1 : Ok (ext h R1) := ext_ok ok (by show h.n + 2 ≤ 12; omega) (fun fs hf => by
    simp [R1] at hf
    rcases hf with rfl | rfl
    · exact ⟨by simp, fun a ha => by simp at ha; show h.n ≤ a ∧ a < h.n + 2; omega⟩
    · exact ⟨by simp, fun a ha => by simp at ha⟩)
  have ok3 : Ok (ext h R3) := ext_ok ok (by show h.n + 3 ≤ 12; omega) (fun fs hf => by
    simp [R3] at hf
    rcases hf with rfl | rfl | rfl
    · exact ⟨by simp, fun a ha => by simp at ha; show h.n ≤ a ∧ a < h.n + 3; omega⟩
    · exact ⟨by simp, fun a ha => by simp at ha; show h.n ≤ a ∧ a < h.n + 3; omega⟩
    · exact ⟨by simp, fun a ha => by simp at ha⟩)
  simp [R1] at a1
  simp [R3] at a3
  generalize hg1 : ext h R1 = g1 at *
  generalize hg3 : ext h R3 = g3 at *
  have n1 : g1.n = h.n + 2 := by rw [← hg1]; rfl
  have n3 : g3.n = h.n + 3 := by rw [← hg3]; rfl
  have s1 : g1.rs = h.rs := by rw [← hg1]; rfl
  have s3 : g3.rs = h.rs := by rw [← hg3]; rfl
  have c1 : ∀ i, i < h.n → g1.c i = h.c i := fun i hi => by rw [← hg1]; exact if_pos hi
  have c3 : ∀ i, i < h.n → g3.c i = h.c i := fun i hi => by rw [← hg3]; exact if_pos hi
  have lv3 : ∀ a, a < h.n + 3 → (a < h.n → live h a) → live g3 a := fun a ha hl => by rw [← hg3]; exact ext_live ha hl
  have lv1 : live g1 h.n := by rw [← hg1]; exact ext_live (by show h.n < h.n + 2; omega) fun q => absurd q (by omega)
  have comp : ∀ (g : Hx), (∀ i, i < h.n → g.c i = h.c i) → h.n ≤ g.n → ∀ x0 x1 x2 x4 x5 x6 : Option W, compL (.nm 8) (bVal (pOp2 gNotN (pOp2 gIx (pBv 3) (pBv 8)) (pC .non))) (pVar 8) 0 [x0, x1, x2, some (0, g.cds), x4, x5, x6, none, none] ((List.range h.n).map IN) = some ((someL h).map IN) := by
    intro g hc hgn x0 x1 x2 x4 x5 x6
    refine comp_fm (fun i => (h.c i).isSome) IN fun i hi => ?_
    have hi' := List.mem_range.mp hi
    have hci := hc i hi'
    cases hx : h.c i with
    | none => simp -implicitDefEqProofs [ix_cds (show i < g.n by omega), hci, hx]
    | some fs => simp -implicitDefEqProofs [ix_cds (show i < g.n by omega), hci, hx]
  have lt4 : (h.rs.length : Int) < 4 ↔ h.rs.length < 4 := by omega
  have hk : r 66 % 6 = 0 ∨ r 66 % 6 = 1 ∨ r 66 % 6 = 2 ∨ r 66 % 6 = 3 ∨ r 66 % 6 = 4 ∨ r 66 % 6 = 5 := by omega
  rcases hk with hk | hk | hk | hk | hk | hk
  · refine ⟨h, ok, def_of0 rfl (d_box _) fun Q hQ => ?_⟩
    have hk' : (r 66 : Int) % 6 = 0 := by omega
    unfold K36.b_law_ringed
    simp -implicitDefEqProofs [h66, hk']
    rw [show h.d = D.tup [D.tup (h.rs.map Fd.d), h.cds] from rfl]
    simp -implicitDefEqProofs [h66, hk']
    exact hQ _
  · -- 1
    refine ⟨g1, ok1, def_of0 rfl (d_box _) fun Q hQ => ?_⟩
    have hk' : (r 66 : Int) % 6 = 1 := by omega
    unfold K36.b_law_ringed
    rw [show h.d = D.tup [D.tup (h.rs.map Fd.d), h.cds] from rfl]
    simp -implicitDefEqProofs [h66, hk', h67, gIn, flatD, inF, eqF, a1, hn1, hn2, comp g1 c1 (by omega)]
    rw [← s1, hd]
    exact hQ _
  · -- 2
    have hk' : (r 66 : Int) % 6 = 2 := by omega
    by_cases h4' : h.rs.length < 4
    · refine ⟨addRoot g1 h.n, addRoot_ok ok1 lv1 (by rw [s1]; exact h4'), def_of0 rfl (d_box _) fun Q hQ => ?_⟩
      have hq := hQ
      rw [← hd] at hq
      simp [addRoot, s1] at hq
      unfold K36.b_law_ringed
      rw [show h.d = D.tup [D.tup (h.rs.map Fd.d), h.cds] from rfl]
      have hl5 : h.rs.length + 1 ≤ 1000000 := by omega
      simp -implicitDefEqProofs [h66, hk', h67, gIn, flatD, inF, eqF, a1, hn1, hn2, comp g1 c1 (by omega), lt4, h4', h68, hl5]
      exact hq _
    · refine ⟨g1, ok1, def_of0 rfl (d_box _) fun Q hQ => ?_⟩
      unfold K36.b_law_ringed
      rw [show h.d = D.tup [D.tup (h.rs.map Fd.d), h.cds] from rfl]
      simp -implicitDefEqProofs [h66, hk', h67, gIn, flatD, inF, eqF, a1, hn1, hn2, comp g1 c1 (by omega), lt4, h4', h68]
      rw [← s1, hd]
      exact hQ _
  · -- 3
    have hk' : (r 66 : Int) % 6 = 3 := by omega
    by_cases hL : 0 < (someL h).length
    · have hq0 : r 69 % (someL h).length < (someL h).length := Nat.mod_lt _ hL
      have eq0 : (r 69 : Int) % ((someL h).length : Int) = ((r 69 % (someL h).length : Nat) : Int) := by simp
      generalize r 69 % (someL h).length = q at hq0 eq0
      have hgq := List.getElem?_eq_getElem hq0
      have hpl := someL_mem.mp (List.getElem_mem hq0)
      generalize (someL h)[q] = p at hgq hpl
      obtain ⟨hp, fs, hfs⟩ := hpl
      have hp3 : p < g3.n := by omega
      have hfs3 : g3.c p = some fs := by rw [c3 p hp, hfs]
      have hsz := ok.sz p hp fs hfs
      refine ⟨upd g3 p (fs.drop 1 ++ [.ln h.n]), upd_ok ok3 hp3 (by simp; omega) (fun a ha => ?_), def_of0 rfl (d_box _) fun Q hQ => ?_⟩
      · rcases List.mem_append.mp ha with z | z
        · exact ok3.cl p fs hp3 hfs3 a (List.mem_of_mem_drop z)
        · simp at z
          exact lv3 a (by omega) fun z2 => absurd z2 (by omega)
      · have hq := hQ
        rw [← hd, upd_cds _ _ _ hp3] at hq
        have hL' : (0 : Int) < ((someL h).length : Int) := by omega
        have hl6 : min p g3.n + 1 ≤ 1000000 := by omega
        have hl7 : min p g3.n + 1 + (g3.n - (p + 1)) ≤ 1000000 := by omega
        have hl8 : fs.length - 1 + 1 ≤ 1000000 := by omega
        have e1 : ((p : Int) + 1) = ((p + 1 : Nat) : Int) := by omega
        have e2 : ∀ ds : List D, cutL ds (some 1) none = ds.drop 1 := fun ds => cut_drop ds 1
        have e3 : ∀ fs', (upd g3 p fs').rs = h.rs := fun _ => s3
        simp [e3] at hq
        unfold K36.b_law_ringed
        rw [show h.d = D.tup [D.tup (h.rs.map Fd.d), h.cds] from rfl]
        simp -implicitDefEqProofs [h66, hk', h67, gIn, flatD, inF, eqF, a3, hn1, hn2, comp g3 c3 (by omega), hL', hL, h69, eq0, hgq, -Int.natCast_emod, -Int.natCast_add, take_cds, e1, drop_cds, ix_cds hp3, hfs3, e2, hl6, hl7, hl8]
        exact hq _
    · refine ⟨g3, ok3, def_of0 rfl (d_box _) fun Q hQ => ?_⟩
      have hL' : ¬ (0 : Int) < ((someL h).length : Int) := by omega
      unfold K36.b_law_ringed
      rw [show h.d = D.tup [D.tup (h.rs.map Fd.d), h.cds] from rfl]
      simp -implicitDefEqProofs [h66, hk', h67, gIn, flatD, inF, eqF, a3, hn1, hn2, comp g3 c3 (by omega), hL', hL]
      rw [← s3, hd]
      exact hQ _
  · -- 4
    have hk' : (r 66 : Int) % 6 = 4 := by omega
    by_cases h4' : h.rs.length < 4
    · have eb : (r 68 : Int) % 2 = ((r 68 % 2 : Nat) : Int) := by simp
      have hb : r 68 % 2 < 2 := Nat.mod_lt _ (by omega)
      generalize r 68 % 2 = b at eb hb
      refine ⟨addRoot g3 (h.n + b), addRoot_ok ok3 (lv3 _ (by omega) fun z => absurd z (by omega)) (by rw [s3]; exact h4'), def_of0 rfl (d_box _) fun Q hQ => ?_⟩
      have hq := hQ
      rw [← hd] at hq
      simp [addRoot, s3] at hq
      unfold K36.b_law_ringed
      rw [show h.d = D.tup [D.tup (h.rs.map Fd.d), h.cds] from rfl]
      have hl5 : h.rs.length + 1 ≤ 1000000 := by omega
      simp -implicitDefEqProofs [h66, hk', h67, gIn, flatD, inF, eqF, a3, hn1, hn2, comp g3 c3 (by omega), lt4, h4', h68, hl5, eb]
      exact hq _
    · refine ⟨g3, ok3, def_of0 rfl (d_box _) fun Q hQ => ?_⟩
      unfold K36.b_law_ringed
      rw [show h.d = D.tup [D.tup (h.rs.map Fd.d), h.cds] from rfl]
      simp -implicitDefEqProofs [h66, hk', h67, gIn, flatD, inF, eqF, a3, hn1, hn2, comp g3 c3 (by omega), lt4, h4', h68]
      rw [← s3, hd]
      exact hQ _
  · -- 5
    have hk' : (r 66 : Int) % 6 = 5 := by omega
    by_cases hL : 0 < (someL h).length
    · have hq0 : r 69 % (someL h).length < (someL h).length := Nat.mod_lt _ hL
      have eq0 : (r 69 : Int) % ((someL h).length : Int) = ((r 69 % (someL h).length : Nat) : Int) := by simp
      generalize r 69 % (someL h).length = q at hq0 eq0
      have hgq := List.getElem?_eq_getElem hq0
      have hpl := someL_mem.mp (List.getElem_mem hq0)
      generalize (someL h)[q] = p at hgq hpl
      have hp3 : h.n < g3.n := by omega
      have hpl' := hpl.1
      refine ⟨upd g3 h.n [.ln p, .ln (h.n + 1)], upd_ok ok3 hp3 (by simp) (fun a ha => ?_), def_of0 rfl (d_box _) fun Q hQ => ?_⟩
      · simp at ha
        rcases ha with z | z
        · exact lv3 a (by omega) fun _ => by rw [z]; exact hpl
        · exact lv3 a (by omega) fun z2 => absurd z2 (by omega)
      · have hq := hQ
        rw [← hd, upd_cds _ _ _ hp3] at hq
        have hL' : (0 : Int) < ((someL h).length : Int) := by omega
        have hl6 : min h.n g3.n + 1 ≤ 1000000 := by omega
        have hl7 : min h.n g3.n + 1 + (g3.n - (h.n + 1)) ≤ 1000000 := by omega
        have e1 : ((h.n : Int) + 1) = ((h.n + 1 : Nat) : Int) := by omega
        have e3 : (upd g3 h.n [.ln p, .ln (h.n + 1)]).rs = h.rs := s3
        rw [e1] at a3
        simp [e3, -Int.natCast_add] at hq
        unfold K36.b_law_ringed
        rw [show h.d = D.tup [D.tup (h.rs.map Fd.d), h.cds] from rfl]
        simp -implicitDefEqProofs [h66, hk', h67, gIn, flatD, inF, eqF, a3, hn1, hn2, comp g3 c3 (by omega), hL', hL, h69, eq0, hgq, -Int.natCast_emod, -Int.natCast_add, take_cds, e1, drop_cds, hl6, hl7]
        exact hq _
    · refine ⟨g3, ok3, def_of0 rfl (d_box _) fun Q hQ => ?_⟩
      have hL' : ¬ (0 : Int) < ((someL h).length : Int) := by omega
      unfold K36.b_law_ringed
      rw [show h.d = D.tup [D.tup (h.rs.map Fd.d), h.cds] from rfl]
      simp -implicitDefEqProofs [h66, hk', h67, gIn, flatD, inF, eqF, a3, hn1, hn2, comp g3 c3 (by omega), hL', hL]
      rw [← s3, hd]
      exact hQ _
end HP
set_option Elab.async false
set_option linter.all false
set_option maxRecDepth 100000
/-! H10: is_heap; the law -/
namespace HP
open PySem L2 Pv
theorem all_true {α : Type} (xs : List α) : gAll (1, .lst (xs.map fun _ => D.bl true)) = some (0, .bl true) := by
  unfold gAll
  rw [ld_l, if_pos (by omega)]
  show (blsD _).map _ = _
  rw [CL.blsD_true]
  have : ((xs.map fun _ => true).all id) = true := List.all_eq_true.mpr fun b hb => by obtain ⟨_, _, rfl⟩ := List.mem_map.mp hb; rfl
  show some (0, D.bl ((xs.map fun _ => true).all id)) = _
  rw [this]
theorem num_i (i : Int) : K36.m_is_number [.int i] = some (0, .bl true) := rfl
theorem link_no (h : Hx) : K36.m_is_link [h.cds, .non] = some (0, .bl true) := by
  refine def_of0 rfl rfl fun Q hQ => ?_
  unfold K36.b_is_link
  simp -implicitDefEqProofs
  exact hQ _
theorem link_ln {h : Hx} {a : Nat} (hl : live h a) : K36.m_is_link [h.cds, .int (a : Int)] = some (0, .bl true) := by
  obtain ⟨h1, fs, h2⟩ := hl
  refine def_of0 rfl rfl fun Q hQ => ?_
  unfold K36.b_is_link
  simp -implicitDefEqProofs [num_i, ix_cds h1, h1, h2]
  exact hQ _
theorem field_is {h : Hx} {f : Fd} (hl : ∀ a, f = .ln a → live h a) : K36.m_is_field [h.cds, f.d] = some (0, .bl true) := by
  refine def_of0 rfl rfl fun Q hQ => ?_
  unfold K36.b_is_field
  cases f with
  | no => simp -implicitDefEqProofs [link_no]; exact hQ _
  | ln a => simp -implicitDefEqProofs [link_ln (hl a rfl)]; exact hQ _
  | nu i => simp -implicitDefEqProofs [num_i]; exact hQ _
theorem cell_is {h : Hx} {c : Cell} (hz : Sz c) (hl : ∀ fs, c = some fs → ∀ a, Fd.ln a ∈ fs → live h a) : K36.m_is_cell [h.cds, cd c] = some (0, .bl true) := by
  refine def_of0 rfl rfl fun Q hQ => ?_
  unfold K36.b_is_cell
  cases c with
  | none => simp -implicitDefEqProofs; exact hQ _
  | some fs =>
    obtain ⟨h1, h2⟩ := hz fs rfl
    have h1' : (1 : Int) ≤ (fs.length : Int) := by omega
    have h2' : (fs.length : Int) ≤ 4 := by omega
    have h3 : fs.length ≤ 1000000 := by omega
    simp -implicitDefEqProofs [h1', h2', h3]
    rw [comp_map fun _ => D.bl true]
    · simp -implicitDefEqProofs [all_true]
      exact hQ _
    · intro f hf
      simp -implicitDefEqProofs [field_is (h := h) (f := f) fun a e => hl fs rfl a (e ▸ hf)]
theorem heap_is {h : Hx} (ok : Ok h) : K36.m_is_heap [h.d] = some (0, .bl true) := by
  refine def_of0 rfl rfl fun Q hQ => ?_
  unfold K36.b_is_heap
  have h4 := ok.nr
  have h12 := ok.nc
  have h4' : ¬ (4 : Int) < (h.rs.length : Int) := by omega
  have h12' : ¬ (12 : Int) < (h.n : Int) := by omega
  have h5 : h.rs.length ≤ 1000000 := by omega
  have h6 : h.n ≤ 1000000 := by omega
  have hi : ∀ k, gIsi .tup (k, h.cds) = some (0, .bl true) := fun k => rfl
  rw [show h.d = D.tup [D.tup (h.rs.map Fd.d), h.cds] from rfl]
  simp -implicitDefEqProofs [hi, h4', h12', h5, h6]
  rw [comp_map fun _ => D.bl true]
  · simp -implicitDefEqProofs [all_true, h6]
    rw [comp_map fun _ => D.bl true]
    · simp -implicitDefEqProofs [all_true]
      exact hQ _
    · intro i hi
      have hi' := List.mem_range.mp hi
      simp -implicitDefEqProofs [cell_is (ok.sz i hi') fun fs e a ha => ok.cl i fs hi' e a ha]
  · intro f hf
    cases f with
    | no => simp -implicitDefEqProofs [link_no]
    | nu i => exact absurd hf (ok.rn i)
    | ln a => simp -implicitDefEqProofs [link_ln (ok.rl a hf)]
end HP
set_option Elab.async false
set_option linter.all false
set_option maxRecDepth 100000
/-! printed by gen.py: the defs of the law as data -/
namespace K35
open PySem PySem.Spec PyProof.Rows L2 Pv
def b_law_mixed : Fs := bSeq (sAsg 2 (pC (.int 0))) (bSeq (sIf (bVal (pOp2 (gCmpI fun i j => decide (j < i)) (pCall (on1 gLen) (aCons (pBv 0) aNil)) (pC (.int 0)))) (sAsg 2 (pOp2 gIx (pBv 0) (pOp2 gMod (pBv 1) (pCall (on1 gLen) (aCons (pBv 0) aNil))))) bNil) (bSeq (sAsg 3 (pOp2 gMod (pCall (on1 gInt) (aCons (pOp2 gAdd (pOp2 gAdd (pOp2 gMulI (pBv 2) (pC (.int 48271))) (pOp2 gMulI (pBv 1) (pC (.int 69621)))) (pC (.int 8191))) aNil)) (pC (.int 2147483647)))) (bSeq (sAsg 4 (pOp2 gMod (pCall (on1 gInt) (aCons (pOp2 gAdd (pOp2 gAdd (pOp2 gMulI (pBv 3) (pBv 3)) (pOp2 gFdiv (pBv 3) (pC (.int 7)))) (pOp2 gMulI (pBv 1) (pC (.int 16807)))) aNil)) (pC (.int 2147483629)))) (bSeq (sAsg 5 (pOp2 gMod (pCall (on1 gInt) (aCons (pOp2 gAdd (pOp2 gAdd (pOp2 gMulI (pBv 4) (pBv 4)) (pOp2 gFdiv (pBv 4) (pC (.int 11)))) (pC (.int 40692))) aNil)) (pC (.int 2147483563)))) (sRet (pOp2 gMod (pOp2 gFdiv (pBv 5) (pC (.int 5))) (pC (.int 1000003))))))))
def m_law_mixed : List D → Option W := mkM 6 2 b_law_mixed
def b_law_row : Fs := bSeq (sAsg 2 (pC (.int 0))) (bSeq (sIf (bAnd (bVal (pOp2 (gCmpI fun i j => decide (j < i)) (pCall (on1 gLen) (aCons (pBv 0) aNil)) (pC (.int 0)))) (bVal (pOp2 (gCmpI fun i j => decide (j ≤ i)) (pOp2 gIx (pBv 0) (pC (.int 0))) (pOp2 gPow (pC (.int 10)) (pC (.int 18)))))) (sAsg 2 (pOp2 gIx (pBv 0) (pC (.int 0)))) bNil) (bSeq (sAsg 3 (pLst aNil)) (bSeq (sFor (iRange1 (pBv 1)) (.nm 4) (sIf (bVal (pOp2 (gCmpI fun i j => decide (j < i)) (pBv 2) (pC (.int 0)))) (bSeq (sApp 3 (pOp2 gMod (pCall (on1 gInt) (aCons (pBv 2) aNil)) (pC (.int 1000)))) (sAsg 2 (pOp2 gFdiv (pBv 2) (pC (.int 1000))))) (sApp 3 (pFn m_law_mixed [] (aCons (pBv 0) (aCons (pBv 4) aNil)))))) (sRet (pBv 3)))))
def m_law_row : List D → Option W := mkM 5 2 b_law_row
def b_law_field : Fs := bSeq (sAsg 2 (pOp2 gMod (pCall (on1 gInt) (aCons (pBv 0) aNil)) (pOp2 gAdd (pOp2 gMulI (pC (.int 2)) (pCall (on1 gLen) (aCons (pBv 1) aNil))) (pC (.int 3))))) (bSeq (sIf (bVal (pOp2 (gCmpI fun i j => decide (i < j)) (pBv 2) (pCall (on1 gLen) (aCons (pBv 1) aNil)))) (sRet (pOp2 gIx (pBv 1) (pBv 2))) bNil) (bSeq (sIf (bVal (pOp2 gEq (pBv 2) (pCall (on1 gLen) (aCons (pBv 1) aNil)))) (sRet (pC .non)) bNil) (sRet (pTup (aCons (pC (.str "num")) (aCons (pOp2 gSub (pOp2 gMod (pOp2 gFdiv (pCall (on1 gInt) (aCons (pBv 0) aNil)) (pC (.int 31))) (pC (.int 9))) (pC (.int 4))) aNil))))))
def m_law_field : List D → Option W := mkM 3 2 b_law_field
def b_law_heap : Fs := bSeq (sAsg 2 (pLc 0 (iRange1 (pBv 1)) (.nm 5) [5] bYes (pOp2 gMod (pCall (on1 gInt) (aCons (pOp2 gIx (pBv 0) (pBv 5)) aNil)) (pC (.int 10))))) (bSeq (sAsg 3 (pLc 0 (iRange1 (pBv 1)) (.nm 5) [5] (bVal (pOp2 (gCmpI fun i j => decide (j < i)) (pOp2 gIx (pBv 2) (pBv 5)) (pC (.int 1)))) (pVar 5))) (bSeq (sAsg 4 (pLst aNil)) (bSeq (sFor (iRange1 (pBv 1)) (.nm 5) (bSeq (sAsg 6 (pCall (on1 gTupOf) (aCons (pLc 0 (iRange1 (pOp2 gAdd (pC (.int 1)) (pOp2 gMod (pOp2 gIx (pBv 2) (pBv 5)) (pC (.int 4))))) (.nm 9) [9] bYes (pFn m_law_field [] (aCons (pOp2 gIx (pBv 0) (pOp2 gAdd (pOp2 gAdd (pC (.int 12)) (pOp2 gMulI (pC (.int 4)) (pBv 5))) (pBv 9))) (aCons (pBv 3) aNil)))) aNil))) (sApp 4 (pOp2 gIx (pTup (aCons (pC .non) (aCons (pVar 6) aNil))) (pCall (on1 gInt) (aCons (pOp2 (gCmpI fun i j => decide (j < i)) (pOp2 gIx (pBv 2) (pBv 5)) (pC (.int 1))) aNil)))))) (bSeq (sAsg 7 (pLst aNil)) (bSeq (sFor (iRange1 (pOp2 gMod (pCall (on1 gInt) (aCons (pOp2 gIx (pBv 0) (pC (.int 60))) aNil)) (pC (.int 5)))) (.nm 5) (bSeq (sAsg 8 (pOp2 gMod (pCall (on1 gInt) (aCons (pOp2 gIx (pBv 0) (pOp2 gAdd (pC (.int 61)) (pBv 5))) aNil)) (pOp2 gAdd (pCall (on1 gLen) (aCons (pBv 3) aNil)) (pC (.int 2))))) (sApp 7 (pOp2 gIx (pOp2 gAdd (pBv 3) (pLst (aCons (pC .non) (aCons (pC .non) aNil)))) (pBv 8))))) (sRet (pTup (aCons (pCall (on1 gTupOf) (aCons (pBv 7) aNil)) (aCons (pCall (on1 gTupOf) (aCons (pBv 4) aNil)) aNil)))))))))
def m_law_heap : List D → Option W := mkM 10 2 b_law_heap
def b_law_is_int : Fs := sRet (pAnd (pIsi .int (pBv 0)) (pNot (pIsi .bl (pBv 0))))
def m_law_is_int : List D → Option W := mkM 1 1 b_law_is_int
def b_law_like (m : List D → Option W) : Fs := bSeq (sIf (bVal (pOp2 gIsN (pBv 1) (pC .non))) (sRet (pOp2 gIsN (pBv 0) (pC .non))) bNil) (bSeq (sIf (bVal (pIsi .bl (pBv 1))) (sRet (pAnd (pIsi .bl (pBv 0)) (pOp2 gEq (pBv 0) (pBv 1)))) bNil) (bSeq (sIf (bVal (pIsi .tup (pBv 1))) (bSeq (sIf (bOr (bNot (bVal (pIsi .tup (pBv 0)))) (bVal (pOp2 gNe (pCall (on1 gLen) (aCons (pBv 0) aNil)) (pCall (on1 gLen) (aCons (pBv 1) aNil))))) (sRet (pC (.bl false))) bNil) (sRet (pCall (on1 gAll) (aCons (pLc 0 (iRange1 (pCall (on1 gLen) (aCons (pBv 1) aNil))) (.nm 2) [2] bYes (pFn m [] (aCons (pOp2 gIx (pBv 0) (pBv 2)) (aCons (pOp2 gIx (pBv 1) (pBv 2)) aNil)))) aNil)))) bNil) (bSeq (sIf (bVal (pIsi .str (pBv 1))) (sRet (pAnd (pIsi .str (pBv 0)) (pOp2 gEq (pBv 0) (pBv 1)))) bNil) (sRet (pAnd (pFn m_law_is_int [] (aCons (pBv 0) aNil)) (pOp2 gEq (pBv 0) (pBv 1)))))))
def r_law_like : Nat → List D → Option W
  | 0 => fun _ => none
  | n + 1 => mkM 3 2 (b_law_like (r_law_like n))
def m_law_like : List D → Option W := r_law_like 6
def b_is_number : Fs := sRet (pAnd (pIsi .int (pBv 0)) (pNot (pIsi .bl (pBv 0))))
def m_is_number : List D → Option W := mkM 1 1 b_is_number
def b_is_link : Fs := bSeq (sIf (bVal (pOp2 gIsN (pBv 1) (pC .non))) (sRet (pC (.bl true))) bNil) (sRet (pAnd (pFn m_is_number [] (aCons (pBv 1) aNil)) (pAnd (pChain (gCmpI fun i j => decide (i ≤ j)) (gCmpI fun i j => decide (i < j)) (pC (.int 0)) (pBv 1) (pCall (on1 gLen) (aCons (pBv 0) aNil))) (pOp2 gNotN (pOp2 gIx (pBv 0) (pBv 1)) (pC .non)))))
def m_is_link : List D → Option W := mkM 2 2 b_is_link
def b_is_field : Fs := bSeq (sIf (bVal (pIsi .tup (pBv 1))) (sRet (pAnd (pOp2 gEq (pCall (on1 gLen) (aCons (pBv 1) aNil)) (pC (.int 2))) (pAnd (pOp2 gEq (pOp2 gIx (pBv 1) (pC (.int 0))) (pC (.str "num"))) (pFn m_is_number [] (aCons (pOp2 gIx (pBv 1) (pC (.int 1))) aNil))))) bNil) (sRet (pFn m_is_link [] (aCons (pBv 0) (aCons (pBv 1) aNil))))
def m_is_field : List D → Option W := mkM 2 2 b_is_field
def b_is_cell : Fs := bSeq (sIf (bVal (pOp2 gIsN (pBv 1) (pC .non))) (sRet (pC (.bl true))) bNil) (bSeq (sIf (bOr (bNot (bVal (pIsi .tup (pBv 1)))) (bNot (bVal (pChain (gCmpI fun i j => decide (i ≤ j)) (gCmpI fun i j => decide (i ≤ j)) (pC (.int 1)) (pCall (on1 gLen) (aCons (pBv 1) aNil)) (pC (.int 4)))))) (sRet (pC (.bl false))) bNil) (sRet (pCall (on1 gAll) (aCons (pLc 0 (iSeq (pVar 1)) (.nm 2) [2] bYes (pFn m_is_field [] (aCons (pBv 0) (aCons (pBv 2) aNil)))) aNil))))
def m_is_cell : List D → Option W := mkM 3 2 b_is_cell
def b_is_heap : Fs := bSeq (sIf (bOr (bNot (bVal (pIsi .tup (pBv 0)))) (bVal (pOp2 gNe (pCall (on1 gLen) (aCons (pBv 0) aNil)) (pC (.int 2))))) (sRet (pC (.bl false))) bNil) (bSeq (sAsgT (.tp [.nm 1, .nm 2]) (pBv 0)) (bSeq (sIf (bOr (bNot (bVal (pIsi .tup (pBv 1)))) (bVal (pOp2 (gCmpI fun i j => decide (j < i)) (pCall (on1 gLen) (aCons (pBv 1) aNil)) (pC (.int 4))))) (sRet (pC (.bl false))) bNil) (bSeq (sIf (bOr (bNot (bVal (pIsi .tup (pBv 2)))) (bVal (pOp2 (gCmpI fun i j => decide (j < i)) (pCall (on1 gLen) (aCons (pBv 2) aNil)) (pC (.int 12))))) (sRet (pC (.bl false))) bNil) (bSeq (sIf (bNot (bVal (pCall (on1 gAll) (aCons (pLc 0 (iSeq (pVar 1)) (.nm 3) [3] bYes (pFn m_is_link [] (aCons (pBv 2) (aCons (pBv 3) aNil)))) aNil)))) (sRet (pC (.bl false))) bNil) (sRet (pCall (on1 gAll) (aCons (pLc 0 (iSeq (pVar 2)) (.nm 4) [4] bYes (pFn m_is_cell [] (aCons (pBv 2) (aCons (pBv 4) aNil)))) aNil)))))))
def m_is_heap : List D → Option W := mkM 5 1 b_is_heap
def b_law_judged : Fs := bSeq (sAsgT (.tp [.nm 1, .nm 2]) (pBv 0)) (bSeq (sAsg 3 (pCall (on1 gLen) (aCons (pBv 2) aNil))) (bSeq (sAsg 4 (pTup (aCons (pOp2 gMulN (pTup (aCons (pC .non) aNil)) (pC (.int 4))) (aCons (pOp2 gAdd (pOp2 gAdd (pBv 2) (pOp2 gMulN (pTup (aCons (pC .non) aNil)) (pOp2 gSub (pC (.int 11)) (pBv 3)))) (pTup (aCons (pTup (aCons (pC .non) (aCons (pTup (aCons (pC (.str "num")) (aCons (pOp1 gNeg (pC (.int 7))) aNil))) (aCons (pC .non) (aCons (pTup (aCons (pC (.str "num")) (aCons (pC (.int 0)) aNil))) aNil))))) aNil))) aNil)))) (bSeq (sIf (bNot (bVal (pCall (on1 gAll) (aCons (pLc 0 (iSeq (pTup (aCons (pVar 0) (aCons (pVar 4) (aCons (pTup (aCons (pTup aNil) (aCons (pTup aNil) aNil))) aNil))))) (.nm 7) [7] bYes (pFn m_law_like [] (aCons (pFn m_is_heap [] (aCons (pBv 7) aNil)) (aCons (pC (.bl true)) aNil)))) aNil)))) (sRet (pC (.bl false))) bNil) (bSeq (sAsg 5 (pLst (aCons (pC .non) (aCons (pC (.int 7)) (aCons (pLst (aCons (pVar 1) (aCons (pVar 2) aNil))) (aCons (pTup (aCons (pCall (on1 gLstOf) (aCons (pBv 1) aNil)) (aCons (pVar 2) aNil))) (aCons (pTup (aCons (pVar 1) (aCons (pCall (on1 gLstOf) (aCons (pBv 2) aNil)) aNil))) (aCons (pTup (aCons (pVar 1) aNil)) (aCons (pOp2 gAdd (pBv 0) (pTup (aCons (pTup aNil) aNil))) aNil))))))))) (bSeq (sExt 5 (pLst (aCons (pTup (aCons (pOp2 gMulN (pTup (aCons (pC .non) aNil)) (pC (.int 5))) (aCons (pVar 2) aNil))) (aCons (pTup (aCons (pVar 1) (aCons (pSl (pOp2 gAdd (pBv 2) (pOp2 gMulN (pTup (aCons (pC .non) aNil)) (pC (.int 12)))) oNone (oSome (pC (.int 13)))) aNil))) (aCons (pTup (aCons (pTup (aCons (pVar 3) aNil)) (aCons (pVar 2) aNil))) (aCons (pTup (aCons (pTup (aCons (pOp1 gNeg (pC (.int 1))) aNil)) (aCons (pVar 2) aNil))) aNil)))))) (bSeq (sExt 5 (pLst (aCons (pTup (aCons (pTup (aCons (pC (.bl true)) aNil)) (aCons (pTup (aCons (pTup (aCons (pC .non) aNil)) (aCons (pTup (aCons (pC .non) aNil)) aNil))) aNil))) (aCons (pTup (aCons (pTup (aCons (pTup (aCons (pC (.str "num")) (aCons (pC (.int 1)) aNil))) aNil)) (aCons (pVar 2) aNil))) (aCons (pTup (aCons (pVar 1) (aCons (pOp2 gAdd (pBv 2) (pTup (aCons (pLst (aCons (pC .non) aNil)) aNil))) aNil))) aNil))))) (bSeq (sAsg 6 (pTup (aCons (pTup aNil) (aCons (pOp2 gMulN (pTup (aCons (pC .non) aNil)) (pC (.int 5))) (aCons (pTup (aCons (pTup (aCons (pC (.str "num")) (aCons (pC (.bl true)) aNil))) aNil)) (aCons (pTup (aCons (pTup (aCons (pC (.str "num")) (aCons (pC (.str "a")) aNil))) aNil)) (aCons (pTup (aCons (pTup (aCons (pC (.str "num")) aNil)) aNil)) (aCons (pTup (aCons (pOp2 gAdd (pBv 3) (pC (.int 1))) aNil)) (aCons (pTup (aCons (pC (.str "a")) aNil)) aNil))))))))) (bSeq (sExt 5 (pLc 0 (iSeq (pVar 6)) (.nm 8) [8] bYes (pTup (aCons (pVar 1) (aCons (pOp2 gAdd (pBv 2) (pTup (aCons (pVar 8) aNil))) aNil))))) (bSeq (sApp 5 (pTup (aCons (pVar 1) (aCons (pOp2 gAdd (pBv 2) (pTup (aCons (pC .non) (aCons (pTup (aCons (pVar 3) aNil)) aNil)))) aNil)))) (sRet (pCall (on1 gAll) (aCons (pLc 0 (iLc (pBv 5)) (.nm 7) [7] bYes (pFn m_law_like [] (aCons (pFn m_is_heap [] (aCons (pBv 7) aNil)) (aCons (pC (.bl false)) aNil)))) aNil))))))))))))
def m_law_judged : List D → Option W := mkM 9 1 b_law_judged
def b_law_held : Fs := bSeq (sIf (bVal (pOp2 gIsN (pBv 0) (pC .non))) (sRet (pLst aNil)) bNil) (sRet (pLc 0 (iSeq (pVar 0)) (.nm 1) [1] (bVal (pFn m_law_is_int [] (aCons (pBv 1) aNil))) (pVar 1)))
def m_law_held : List D → Option W := mkM 2 1 b_law_held
def b_law_met : Fs := bSeq (sAsg 2 (pLst aNil)) (bSeq (sFor (iSeq (pVar 1)) (.nm 3) (sIf (bAnd (bVal (pOp2 gNotN (pBv 3) (pC .non))) (bVal (pOp2 (gIn true) (pBv 3) (pBv 2)))) (sApp 2 (pVar 3)) bNil)) (bSeq (sFor (iRange1 (pCall (on1 gLen) (aCons (pBv 0) aNil))) (.nm 4) (sIf (bVal (pOp2 (gCmpI fun i j => decide (i < j)) (pBv 4) (pCall (on1 gLen) (aCons (pBv 2) aNil)))) (sFor (iSeq (pFn m_law_held [] (aCons (pOp2 gIx (pBv 0) (pOp2 gIx (pBv 2) (pBv 4))) aNil))) (.nm 5) (sIf (bVal (pOp2 (gIn true) (pBv 5) (pBv 2))) (sApp 2 (pVar 5)) bNil)) bNil)) (sRet (pBv 2))))
def m_law_met : List D → Option W := mkM 6 2 b_law_met
def b_is_address : Fs := sRet (pIsi .int (pBv 0))
def m_is_address : List D → Option W := mkM 1 1 b_is_address
def b_moved : Fs := bSeq (sAsgT (.tp [.nm 2, .nm 3]) (pBv 0)) (bSeq (sAsg 4 (pDc (iEnum (pVar 1)) (.tp [.nm 6, .nm 7]) ([6, 7]) bYes (pVar 7) (pVar 6))) (bSeq (sAsg 5 (pLc 0 (iSeq (pVar 1)) (.nm 7) [7] bYes (pCall (on1 gTupOf) (aCons (pLc 0 (iSeq (pOp2 gIx (pBv 3) (pBv 7))) (.nm 8) [8] bYes (pIf (bVal (pFn m_is_address [] (aCons (pBv 8) aNil))) (pOp2 gDGet (pBv 4) (pBv 8)) (pVar 8))) aNil)))) (sRet (pTup (aCons (pCall (on1 gTupOf) (aCons (pLc 0 (iSeq (pVar 2)) (.nm 9) [9] bYes (pIf (bVal (pOp2 gIsN (pBv 9) (pC .non))) (pC .non) (pOp2 gDGet (pBv 4) (pBv 9)))) aNil)) (aCons (pCall (on1 gTupOf) (aCons (pBv 5) aNil)) aNil))))))
def m_moved : List D → Option W := mkM 10 2 b_moved
def b_held : Fs := sRet (pIf (bVal (pOp2 gIsN (pBv 0) (pC .non))) (pLst aNil) (pLc 0 (iSeq (pVar 0)) (.nm 1) [1] (bVal (pFn m_is_address [] (aCons (pBv 1) aNil))) (pVar 1)))
def m_held : List D → Option W := mkM 2 1 b_held
def b_met_cells : Fs := bSeq (sAsg 3 (pLst aNil)) (bSeq (sFor (iSeq (pVar 1)) (.nm 4) (sIf (bAnd (bVal (pFn m_is_address [] (aCons (pBv 4) aNil))) (bAnd (bVal (pOp2 (gIn true) (pBv 4) (pBv 3))) (bVal (pOp2 (gIn true) (pBv 4) (pBv 2))))) (sApp 3 (pVar 4)) bNil)) (bSeq (sAsg 5 (pC (.int 0))) (bSeq (sWhile 1000000 (bVal (pOp2 (gCmpI fun i j => decide (i < j)) (pBv 5) (pCall (on1 gLen) (aCons (pBv 3) aNil)))) (bSeq (sFor (iSeq (pFn m_held [] (aCons (pOp2 gIx (pBv 0) (pOp2 gIx (pBv 3) (pBv 5))) aNil))) (.nm 6) (sIf (bAnd (bVal (pOp2 (gIn true) (pBv 6) (pBv 3))) (bVal (pOp2 (gIn true) (pBv 6) (pBv 2)))) (sApp 3 (pVar 6)) bNil)) (sAug 5 gAddI (pC (.int 1))))) (sRet (pBv 3)))))
def m_met_cells : List D → Option W := mkM 7 3 b_met_cells
def b_reached_cells : Fs := bSeq (sAsgT (.tp [.nm 1, .nm 2]) (pBv 0)) (sRet (pCall (on1 gTupOf) (aCons (pCall (on1 gSorted) (aCons (pFn m_met_cells [.ktp []] (aCons (pBv 2) (aCons (pBv 1) aNil))) aNil)) aNil)))
def m_reached_cells : List D → Option W := mkM 3 1 b_reached_cells
def b_slid_heap : Fs := sRet (pFn m_moved [] (aCons (pBv 0) (aCons (pFn m_reached_cells [] (aCons (pBv 0) aNil)) aNil)))
def m_slid_heap : List D → Option W := mkM 1 1 b_slid_heap
def b_law_turned : Fs := bSeq (sAsg 2 (pCall (on1 gLen) (aCons (pOp2 gIx (pBv 1) (pC (.int 1))) aNil))) (bSeq (sAsg 3 (pOp2 gMod (pCall (on1 gInt) (aCons (pOp2 gIx (pBv 0) (pC (.int 66))) aNil)) (pBv 2))) (bSeq (sAsg 4 (pCall (on1 gLstOf) (aCons (pOp2 gAdd (pSl (pOp2 gIx (pBv 1) (pC (.int 1))) (oSome (pBv 3)) oNone) (pSl (pOp2 gIx (pBv 1) (pC (.int 1))) oNone (oSome (pBv 3)))) aNil))) (bSeq (sFor (iRange1 (pBv 2)) (.nm 5) (sIf (bVal (pOp2 gNotN (pOp2 gIx (pBv 4) (pBv 5)) (pC .non))) (bSeq (sAsg 6 (pCall (on1 gLstOf) (aCons (pOp2 gIx (pBv 4) (pBv 5)) aNil))) (bSeq (sFor (iRange1 (pCall (on1 gLen) (aCons (pBv 6) aNil))) (.nm 7) (sIf (bVal (pFn m_law_is_int [] (aCons (pOp2 gIx (pBv 6) (pBv 7)) aNil))) (sSet 6 (pBv 7) (pOp2 gMod (pCall (on1 gInt) (aCons (pOp2 gSub (pOp2 gIx (pBv 6) (pBv 7)) (pBv 3)) aNil)) (pBv 2))) bNil)) (sSet 4 (pBv 5) (pCall (on1 gTupOf) (aCons (pBv 6) aNil))))) bNil)) (bSeq (sAsg 8 (pLst aNil)) (bSeq (sFor (iSeq (pOp2 gIx (pBv 1) (pC (.int 0)))) (.nm 9) (bSeq (sIf (bVal (pOp2 gNotN (pBv 9) (pC .non))) (sAsg 9 (pOp2 gMod (pCall (on1 gInt) (aCons (pOp2 gSub (pBv 9) (pBv 3)) aNil)) (pBv 2))) bNil) (sApp 8 (pVar 9)))) (bSeq (sAsg 10 (pLc 0 (iRange1 (pBv 2)) (.nm 5) [5] (bVal (pOp2 gNotN (pOp2 gIx (pBv 4) (pBv 5)) (pC .non))) (pVar 5))) (bSeq (sIf (bAnd (bVal (pOp2 gEq (pOp2 gMod (pCall (on1 gInt) (aCons (pOp2 gIx (pBv 0) (pC (.int 67))) aNil)) (pC (.int 2))) (pC (.int 0)))) (bVal (pOp2 (gCmpI fun i j => decide (j < i)) (pCall (on1 gLen) (aCons (pBv 10) aNil)) (pC (.int 0))))) (bSeq (sAsg 5 (pOp2 gIx (pBv 10) (pOp2 gMod (pCall (on1 gInt) (aCons (pOp2 gIx (pBv 0) (pC (.int 68))) aNil)) (pCall (on1 gLen) (aCons (pBv 10) aNil))))) (bSeq (sAsg 11 (pOp2 gMod (pCall (on1 gInt) (aCons (pOp2 gIx (pBv 0) (pC (.int 69))) aNil)) (pCall (on1 gLen) (aCons (pOp2 gIx (pBv 4) (pBv 5)) aNil)))) (sSet 4 (pBv 5) (pOp2 gAdd (pOp2 gAdd (pSl (pOp2 gIx (pBv 4) (pBv 5)) oNone (oSome (pBv 11))) (pTup (aCons (pFn m_law_field [] (aCons (pOp2 gIx (pBv 0) (pC (.int 70))) (aCons (pBv 10) aNil))) aNil))) (pSl (pOp2 gIx (pBv 4) (pBv 5)) (oSome (pOp2 gAdd (pBv 11) (pC (.int 1)))) oNone))))) bNil) (sRet (pTup (aCons (pCall (on1 gTupOf) (aCons (pBv 8) aNil)) (aCons (pCall (on1 gTupOf) (aCons (pBv 4) aNil)) aNil)))))))))))
def m_law_turned : List D → Option W := mkM 12 2 b_law_turned
def b_law_moved : Fs := bSeq (sAsg 2 (pLst aNil)) (bSeq (sFor (iSeq (pVar 1)) (.nm 3) (bSeq (sAsg 4 (pLst aNil)) (bSeq (sFor (iSeq (pOp2 gIx (pOp2 gIx (pBv 0) (pC (.int 1))) (pBv 3))) (.nm 5) (bSeq (sIf (bVal (pFn m_law_is_int [] (aCons (pBv 5) aNil))) (sAsg 5 (pOp2 gLIndex (pBv 1) (pBv 5))) bNil) (sApp 4 (pVar 5)))) (sApp 2 (pCall (on1 gTupOf) (aCons (pBv 4) aNil)))))) (bSeq (sAsg 6 (pLst aNil)) (bSeq (sFor (iSeq (pOp2 gIx (pBv 0) (pC (.int 0)))) (.nm 7) (bSeq (sIf (bVal (pOp2 gNotN (pBv 7) (pC .non))) (sAsg 7 (pOp2 gLIndex (pBv 1) (pBv 7))) bNil) (sApp 6 (pVar 7)))) (sRet (pTup (aCons (pCall (on1 gTupOf) (aCons (pBv 6) aNil)) (aCons (pCall (on1 gTupOf) (aCons (pBv 2) aNil)) aNil)))))))
def m_law_moved : List D → Option W := mkM 8 2 b_law_moved
def b_law_bare : Fs := bSeq (sAsg 1 (pOp2 gIx (pBv 0) (pC (.int 1)))) (bSeq (sFor (iRange1 (pCall (on1 gLen) (aCons (pOp2 gIx (pBv 0) (pC (.int 1))) aNil))) (.nm 2) (sIf (bAnd (bVal (pOp2 (gCmpI fun i j => decide (j < i)) (pCall (on1 gLen) (aCons (pBv 1) aNil)) (pC (.int 0)))) (bVal (pOp2 gIsN (pOp2 gIx (pBv 1) (pOp2 gSub (pCall (on1 gLen) (aCons (pBv 1) aNil)) (pC (.int 1)))) (pC .non)))) (sAsg 1 (pSl (pBv 1) oNone (oSome (pOp2 gSub (pCall (on1 gLen) (aCons (pBv 1) aNil)) (pC (.int 1)))))) bNil)) (sRet (pTup (aCons (pOp2 gIx (pBv 0) (pC (.int 0))) (aCons (pVar 1) aNil)))))
def m_law_bare : List D → Option W := mkM 3 1 b_law_bare
def b_same_heap : Fs := bSeq (sIf (bVal (pOp2 gNe (pCall (on1 gLen) (aCons (pOp2 gIx (pBv 0) (pC (.int 0))) aNil)) (pCall (on1 gLen) (aCons (pOp2 gIx (pBv 1) (pC (.int 0))) aNil)))) (sRet (pC (.bl false))) bNil) (bSeq (sAsg 2 (pDNew 0 false)) (bSeq (sAsg 3 (pDNew 0 false)) (bSeq (sAsg 4 (pLstZip (pOp2 gIx (pBv 0) (pC (.int 0))) (pOp2 gIx (pBv 1) (pC (.int 0))))) (bSeq (sWhile 1000000 (bTru (pBv 4)) (bSeq (sPopT 4 (.tp [.nm 5, .nm 6])) (sIf (bOr (bNot (bVal (pFn m_is_address [] (aCons (pBv 5) aNil)))) (bNot (bVal (pFn m_is_address [] (aCons (pBv 6) aNil))))) (sIf (bVal (pOp2 gNe (pBv 5) (pBv 6))) (sRet (pC (.bl false))) bNil) (sIf (bOr (bVal (pOp2 (gDIn false) (pBv 5) (pBv 2))) (bVal (pOp2 (gDIn false) (pBv 6) (pBv 3)))) (sIf (bOr (bVal (pOp2 gNe (pOp2 gDGet1 (pBv 2) (pBv 5)) (pBv 6))) (bVal (pOp2 gNe (pOp2 gDGet1 (pBv 3) (pBv 6)) (pBv 5)))) (sRet (pC (.bl false))) bNil) (bSeq (sPut 2 (pBv 5) (pVar 6)) (bSeq (sPut 3 (pBv 6) (pVar 5)) (bSeq (sPar [7, 8] (aCons (pOp2 gIx (pOp2 gIx (pBv 0) (pC (.int 1))) (pBv 5)) (aCons (pOp2 gIx (pOp2 gIx (pBv 1) (pC (.int 1))) (pBv 6)) aNil))) (bSeq (sIf (bVal (pOp2 gNe (pCall (on1 gLen) (aCons (pBv 7) aNil)) (pCall (on1 gLen) (aCons (pBv 8) aNil)))) (sRet (pC (.bl false))) bNil) (sExt 4 (pLstZip (pVar 7) (pVar 8))))))))))) (sRet (pC (.bl true)))))))
def m_same_heap : List D → Option W := mkM 9 2 b_same_heap
def b_marked_swept : Fs := bSeq (sAsgT (.tp [.nm 1, .nm 2]) (pBv 0)) (bSeq (sAsg 3 (pFn m_met_cells [.ktp []] (aCons (pBv 2) (aCons (pBv 1) aNil)))) (sRet (pTup (aCons (pVar 1) (aCons (pCall (on1 gTupOf) (aCons (pLc 0 (iEnum (pVar 2)) (.tp [.nm 4, .nm 5]) ([4, 5]) bYes (pIf (bVal (pOp2 (gIn false) (pBv 4) (pBv 3))) (pVar 5) (pC .non))) aNil)) aNil)))))
def m_marked_swept : List D → Option W := mkM 6 1 b_marked_swept
def b_copied_heap : Fs := bSeq (sAsgT (.tp [.nm 1, .nm 2]) (pBv 0)) (sRet (pFn m_moved [] (aCons (pBv 0) (aCons (pFn m_met_cells [.ktp []] (aCons (pBv 2) (aCons (pBv 1) aNil))) aNil))))
def m_copied_heap : List D → Option W := mkM 3 1 b_copied_heap
def b_shape_of : Fs := sRet (pFn m_copied_heap [] (aCons (pBv 0) aNil))
def m_shape_of : List D → Option W := mkM 1 1 b_shape_of
def b_law_swept : Fs := bSeq (sAsg 2 (pFn m_law_met [] (aCons (pOp2 gIx (pBv 1) (pC (.int 1))) (aCons (pOp2 gIx (pBv 1) (pC (.int 0))) aNil)))) (bSeq (sPar [3, 4] (aCons (pFn m_law_moved [] (aCons (pBv 1) (aCons (pBv 2) aNil))) (aCons (pCall (on1 gSorted) (aCons (pBv 2) aNil)) aNil))) (bSeq (sAsg 5 (pCall (on1 gTupOf) (aCons (pLc 0 (iRange1 (pCall (on1 gLen) (aCons (pOp2 gIx (pBv 1) (pC (.int 1))) aNil))) (.nm 9) [9] bYes (pOp2 gIx (pTup (aCons (pC .non) (aCons (pOp2 gIx (pOp2 gIx (pBv 1) (pC (.int 1))) (pBv 9)) aNil))) (pCall (on1 gInt) (aCons (pOp2 (gIn false) (pBv 9) (pBv 2)) aNil)))) aNil))) (bSeq (sIf (bOr (bNot (bVal (pFn m_law_like [] (aCons (pFn m_reached_cells [] (aCons (pBv 1) aNil)) (aCons (pCall (on1 gTupOf) (aCons (pBv 4) aNil)) aNil))))) (bNot (bVal (pFn m_law_like [] (aCons (pFn m_marked_swept [] (aCons (pBv 1) aNil)) (aCons (pTup (aCons (pOp2 gIx (pBv 1) (pC (.int 0))) (aCons (pVar 5) aNil))) aNil)))))) (sRet (pC (.bl false))) bNil) (bSeq (sIf (bOr (bNot (bVal (pFn m_law_like [] (aCons (pFn m_copied_heap [] (aCons (pBv 1) aNil)) (aCons (pBv 3) aNil))))) (bNot (bVal (pFn m_law_like [] (aCons (pFn m_shape_of [] (aCons (pBv 1) aNil)) (aCons (pBv 3) aNil)))))) (sRet (pC (.bl false))) bNil) (bSeq (sAsg 6 (pFn m_slid_heap [] (aCons (pBv 1) aNil))) (bSeq (sIf (bNot (bVal (pFn m_law_like [] (aCons (pFn m_law_bare [] (aCons (pBv 6) aNil)) (aCons (pFn m_law_moved [] (aCons (pBv 1) (aCons (pBv 4) aNil))) aNil))))) (sRet (pC (.bl false))) bNil) (bSeq (sIf (bNot (bVal (pCall (on1 gAll) (aCons (pLc 0 (iSeq (pTup (aCons (pVar 1) (aCons (pVar 3) (aCons (pVar 6) (aCons (pTup (aCons (pOp2 gIx (pBv 1) (pC (.int 0))) (aCons (pVar 5) aNil))) aNil)))))) (.nm 10) [10] bYes (pFn m_law_like [] (aCons (pFn m_same_heap [] (aCons (pBv 1) (aCons (pBv 10) aNil))) (aCons (pC (.bl true)) aNil)))) aNil)))) (sRet (pC (.bl false))) bNil) (bSeq (sAsg 7 (pFn m_law_turned [] (aCons (pBv 0) (aCons (pBv 1) aNil)))) (bSeq (sAsg 8 (pOp2 gEq (pFn m_law_moved [] (aCons (pBv 7) (aCons (pFn m_law_met [] (aCons (pOp2 gIx (pBv 7) (pC (.int 1))) (aCons (pOp2 gIx (pBv 7) (pC (.int 0))) aNil))) aNil))) (pBv 3))) (sRet (pAnd (pFn m_law_like [] (aCons (pFn m_same_heap [] (aCons (pBv 1) (aCons (pBv 7) aNil))) (aCons (pBv 8) aNil))) (pFn m_law_like [] (aCons (pFn m_same_heap [] (aCons (pBv 7) (aCons (pBv 3) aNil))) (aCons (pBv 8) aNil))))))))))))))
def m_law_swept : List D → Option W := mkM 11 2 b_law_swept
def b_law_place : Fs := bSeq (sAsgT (.tp [.nm 2, .nm 3]) (pTup (aCons (pC (.int 0)) (aCons (pC (.int 0)) aNil)))) (bSeq (sFor (iSeq (pVar 0)) (.tp [.nm 4, .nm 5]) (bSeq (sIf (bVal (pOp2 (gCmpI fun i j => decide (i < j)) (pBv 3) (pBv 1))) (sAsg 2 (pOp2 gAdd (pBv 2) (pC (.int 1)))) bNil) (sAsg 3 (pOp2 gAdd (pBv 3) (pBv 4))))) (sRet (pBv 2)))
def m_law_place : List D → Option W := mkM 6 2 b_law_place
def b_room_given : Fs := bSeq (sAsg 2 (pIf (bAnd (bVal (pOp2 (gCmpI fun i j => decide (j < i)) (pBv 1) (pC (.int 0)))) (bVal (pOp2 gIx (pOp2 gIx (pBv 0) (pOp2 gSub (pBv 1) (pC (.int 1)))) (pC (.int 1))))) (pOp2 gSub (pBv 1) (pC (.int 1))) (pVar 1))) (bSeq (sAsg 3 (pIf (bAnd (bVal (pOp2 (gCmpI fun i j => decide (i < j)) (pOp2 gAdd (pBv 1) (pC (.int 1))) (pCall (on1 gLen) (aCons (pBv 0) aNil)))) (bVal (pOp2 gIx (pOp2 gIx (pBv 0) (pOp2 gAdd (pBv 1) (pC (.int 1)))) (pC (.int 1))))) (pOp2 gAdd (pBv 1) (pC (.int 1))) (pVar 1))) (bSeq (sAsg 4 (pCall (on1 gSum) (aCons (pLc 0 (iSeq (pSl (pBv 0) (oSome (pBv 2)) (oSome (pOp2 gAdd (pBv 3) (pC (.int 1)))))) (.nm 5) [5] bYes (pOp2 gIx (pBv 5) (pC (.int 0)))) aNil))) (sRet (pOp2 gAdd (pOp2 gAdd (pSl (pBv 0) oNone (oSome (pBv 2))) (pTup (aCons (pTup (aCons (pVar 4) (aCons (pC (.bl true)) aNil))) aNil))) (pSl (pBv 0) (oSome (pOp2 gAdd (pBv 3) (pC (.int 1)))) oNone)))))
def m_room_given : List D → Option W := mkM 6 2 b_room_given
def b_law_given : Fs := bSeq (sPar [2, 3] (aCons (pVar 1) (aCons (pOp2 gAdd (pBv 1) (pC (.int 1))) aNil))) (bSeq (sIf (bAnd (bVal (pOp2 (gCmpI fun i j => decide (j < i)) (pBv 2) (pC (.int 0)))) (bVal (pOp2 gIx (pOp2 gIx (pBv 0) (pOp2 gSub (pBv 2) (pC (.int 1)))) (pC (.int 1))))) (sAsg 2 (pOp2 gSub (pBv 2) (pC (.int 1)))) bNil) (bSeq (sIf (bAnd (bVal (pOp2 (gCmpI fun i j => decide (i < j)) (pBv 3) (pCall (on1 gLen) (aCons (pBv 0) aNil)))) (bVal (pOp2 gIx (pOp2 gIx (pBv 0) (pBv 3)) (pC (.int 1))))) (sAsg 3 (pOp2 gAdd (pBv 3) (pC (.int 1)))) bNil) (sRet (pOp2 gAdd (pOp2 gAdd (pSl (pBv 0) oNone (oSome (pBv 2))) (pTup (aCons (pTup (aCons (pCall (on1 gSum) (aCons (pLc 0 (iSeq (pSl (pBv 0) (oSome (pBv 2)) (oSome (pBv 3)))) (.tp [.nm 4, .nm 5]) ([4, 5]) bYes (pVar 4)) aNil)) (aCons (pC (.bl true)) aNil))) aNil))) (pSl (pBv 0) (oSome (pBv 3)) oNone)))))
def m_law_given : List D → Option W := mkM 6 2 b_law_given
def b_lost_room : Fs := bSeq (sAsg 1 (pLc 0 (iSeq (pVar 0)) (.tp [.nm 2, .nm 3]) ([2, 3]) (bTru (pBv 3)) (pVar 2))) (sRet (pOp2 gSub (pCall (on1 gSum) (aCons (pBv 1) aNil)) (pOp2 gMaxDef (pBv 1) (pC (.int 0)))))
def m_lost_room : List D → Option W := mkM 4 1 b_lost_room
def b_first_room : Fs := bSeq (sFor (iEnum (pVar 0)) (.tp [.nm 2, .tp [.nm 3, .nm 4]]) (sIf (bAnd (bTru (pBv 4)) (bVal (pOp2 (gCmpI fun i j => decide (j ≤ i)) (pBv 3) (pBv 1)))) (sRet (pBv 2)) bNil)) (sRet (pC .non))
def m_first_room : List D → Option W := mkM 5 2 b_first_room
def b_best_room : Fs := bSeq (sAsg 2 (pC .non)) (bSeq (sFor (iEnum (pVar 0)) (.tp [.nm 3, .tp [.nm 4, .nm 5]]) (sIf (bAnd (bTru (pBv 5)) (bAnd (bVal (pOp2 (gCmpI fun i j => decide (j ≤ i)) (pBv 4) (pBv 1))) (bOr (bVal (pOp2 gIsN (pBv 2) (pC .non))) (bVal (pOp2 (gCmpI fun i j => decide (i < j)) (pBv 4) (pOp2 gIx (pOp2 gIx (pBv 0) (pBv 2)) (pC (.int 0)))))))) (sAsg 2 (pVar 3)) bNil)) (sRet (pBv 2)))
def m_best_room : List D → Option W := mkM 6 2 b_best_room
def b_room_taken : Fs := bSeq (sAsg 3 (pOp2 gSub (pOp2 gIx (pOp2 gIx (pBv 0) (pBv 1)) (pC (.int 0))) (pBv 2))) (bSeq (sAsg 4 (pIf (bVal (pOp2 gEq (pBv 3) (pC (.int 0)))) (pTup (aCons (pTup (aCons (pVar 2) (aCons (pC (.bl false)) aNil))) aNil)) (pTup (aCons (pTup (aCons (pVar 2) (aCons (pC (.bl false)) aNil))) (aCons (pTup (aCons (pVar 3) (aCons (pC (.bl true)) aNil))) aNil))))) (sRet (pOp2 gAdd (pOp2 gAdd (pSl (pBv 0) oNone (oSome (pBv 1))) (pBv 4)) (pSl (pBv 0) (oSome (pOp2 gAdd (pBv 1) (pC (.int 1)))) oNone))))
def m_room_taken : List D → Option W := mkM 5 3 b_room_taken
def b_law_rooms : Fs := bSeq (sPar [2, 3] (aCons (pFn m_law_met [] (aCons (pOp2 gIx (pBv 1) (pC (.int 1))) (aCons (pOp2 gIx (pBv 1) (pC (.int 0))) aNil))) (aCons (pLst aNil) aNil))) (bSeq (sFor (iSeq (pOp2 gIx (pBv 1) (pC (.int 1)))) (.nm 4) (sApp 3 (pCall (on1 gLen) (aCons (pOp2 gIx (pTup (aCons (pVar 4) (aCons (pTup (aCons (pC (.int 0)) aNil)) aNil))) (pCall (on1 gInt) (aCons (pOp2 gIsN (pBv 4) (pC .non)) aNil))) aNil)))) (bSeq (sAsg 5 (pCall (on1 gTupOf) (aCons (pLc 0 (iLc (pBv 3)) (.nm 12) [12] bYes (pTup (aCons (pVar 12) (aCons (pC (.bl false)) aNil)))) aNil))) (bSeq (sAsg 6 (pLc 0 (iRange1 (pCall (on1 gLen) (aCons (pBv 3) aNil))) (.nm 9) [9] (bVal (pOp2 (gIn true) (pBv 9) (pBv 2))) (pVar 9))) (bSeq (sAsg 7 (pOp2 gMod (pCall (on1 gInt) (aCons (pOp2 gIx (pBv 0) (pC (.int 71))) aNil)) (pOp2 gAdd (pCall (on1 gLen) (aCons (pBv 6) aNil)) (pC (.int 1))))) (bSeq (sFor (iSeq (pOp2 gAdd (pSl (pBv 6) (oSome (pBv 7)) oNone) (pSl (pBv 6) oNone (oSome (pBv 7))))) (.nm 8) (bSeq (sAsg 9 (pFn m_law_place [] (aCons (pBv 5) (aCons (pCall (on1 gSum) (aCons (pSl (pBv 3) oNone (oSome (pBv 8))) aNil)) aNil)))) (bSeq (sPar [10, 5] (aCons (pFn m_room_given [] (aCons (pBv 5) (aCons (pBv 9) aNil))) (aCons (pFn m_law_given [] (aCons (pBv 5) (aCons (pBv 9) aNil))) aNil))) (sIf (bNot (bVal (pFn m_law_like [] (aCons (pBv 10) (aCons (pBv 5) aNil))))) (sRet (pC (.bl false))) bNil)))) (bSeq (sAsg 11 (pLc 0 (iSeq (pVar 5)) (.tp [.nm 12, .nm 16]) ([12, 16]) (bTru (pBv 16)) (pVar 12))) (bSeq (sIf (bNot (bVal (pFn m_law_like [] (aCons (pFn m_lost_room [] (aCons (pBv 5) aNil)) (aCons (pOp2 gSub (pCall (on1 gSum) (aCons (pBv 11) aNil)) (pCall (on1 gMax) (aCons (pOp2 gAdd (pBv 11) (pLst (aCons (pC (.int 0)) aNil))) aNil))) aNil))))) (sRet (pC (.bl false))) bNil) (bSeq (sFor (iRange2 (pC (.int 1)) (pC (.int 7))) (.nm 12) (bSeq (sAsg 13 (pLc 0 (iRange1 (pCall (on1 gLen) (aCons (pBv 5) aNil))) (.nm 9) [9] (bAnd (bVal (pOp2 gIx (pOp2 gIx (pBv 5) (pBv 9)) (pC (.int 1)))) (bVal (pOp2 (gCmpI fun i j => decide (j ≤ i)) (pOp2 gIx (pOp2 gIx (pBv 5) (pBv 9)) (pC (.int 0))) (pBv 12)))) (pVar 9))) (bSeq (sAsg 14 (pLc 0 (iLc (pBv 13)) (.nm 9) [9] bYes (pTup (aCons (pOp2 gIx (pOp2 gIx (pBv 5) (pBv 9)) (pC (.int 0))) (aCons (pVar 9) aNil))))) (bSeq (sIf (bNot (bVal (pFn m_law_like [] (aCons (pFn m_first_room [] (aCons (pBv 5) (aCons (pBv 12) aNil))) (aCons (pOp2 gIx (pOp2 gAdd (pBv 13) (pLst (aCons (pC .non) aNil))) (pC (.int 0))) aNil))))) (sRet (pC (.bl false))) bNil) (bSeq (sIf (bNot (bVal (pFn m_law_like [] (aCons (pFn m_best_room [] (aCons (pBv 5) (aCons (pBv 12) aNil))) (aCons (pOp2 gIx (pOp2 gIx (pOp2 gAdd (pCall (on1 gSorted) (aCons (pBv 14) aNil)) (pLst (aCons (pTup (aCons (pC (.int 0)) (aCons (pC .non) aNil))) aNil))) (pC (.int 0))) (pC (.int 1))) aNil))))) (sRet (pC (.bl false))) bNil) (bFrz 13 (sFor (iSeq (pVar 13)) (.nm 9) (bSeq (sAsg 15 (pSl (pTup (aCons (pTup (aCons (pVar 12) (aCons (pC (.bl false)) aNil))) (aCons (pTup (aCons (pOp2 gSub (pOp2 gIx (pOp2 gIx (pBv 5) (pBv 9)) (pC (.int 0))) (pBv 12)) (aCons (pC (.bl true)) aNil))) aNil))) oNone (oSome (pOp2 gAdd (pC (.int 1)) (pCall (on1 gInt) (aCons (pOp2 (gCmpI fun i j => decide (j < i)) (pOp2 gIx (pOp2 gIx (pBv 5) (pBv 9)) (pC (.int 0))) (pBv 12)) aNil)))))) (sIf (bNot (bVal (pFn m_law_like [] (aCons (pFn m_room_taken [] (aCons (pBv 5) (aCons (pBv 9) (aCons (pBv 12) aNil)))) (aCons (pOp2 gAdd (pOp2 gAdd (pSl (pBv 5) oNone (oSome (pBv 9))) (pBv 15)) (pSl (pBv 5) (oSome (pOp2 gAdd (pBv 9) (pC (.int 1)))) oNone)) aNil))))) (sRet (pC (.bl false))) bNil))))))))) (sRet (pC (.bl true)))))))))))
def m_law_rooms : List D → Option W := mkM 17 2 b_law_rooms
def b_law : Fs := bSeq (sAsg 1 (pFn m_law_row [] (aCons (pBv 0) (aCons (pC (.int 74)) aNil)))) (bSeq (sAsg 2 (pFn m_law_heap [] (aCons (pBv 1) (aCons (pOp2 gAdd (pC (.int 2)) (pOp2 gMod (pCall (on1 gInt) (aCons (pOp2 gIx (pBv 1) (pC (.int 72))) aNil)) (pC (.int 9)))) aNil)))) (sRet (pAnd (pFn m_law_judged [] (aCons (pBv 2) aNil)) (pAnd (pFn m_law_swept [] (aCons (pBv 1) (aCons (pBv 2) aNil))) (pFn m_law_rooms [] (aCons (pBv 1) (aCons (pBv 2) aNil)))))))
def m_law : List D → Option W := mkM 3 1 b_law
end K35
set_option Elab.async false
set_option linter.all false
set_option maxRecDepth 100000
/-! J1: moved by any order; bijections keep the copy -/
namespace HP
open PySem L2 Pv
/-- L holds the roots and all that its cells hold -/
structure Cl (h : Hx) (L : List Nat) : Prop where
  nd : L.Nodup
  lv : ∀ a ∈ L, live h a
  rt : ∀ a ∈ addrs h.rs, a ∈ L
  cl : ∀ a ∈ L, ∀ b ∈ held (h.c a), b ∈ L
theorem met_cl {h : Hx} (ok : Ok h) : Cl h h.met := by
  obtain ⟨k1, k2, k3⟩ := met_key ok
  exact ⟨(met_lt ok).1, (met_lt ok).2, k3, k1⟩
theorem sort_cl {h : Hx} (ok : Ok h) : Cl h (sortN h.met) := by
  have c := met_cl ok
  refine ⟨(List.mergeSort_perm _ _).nodup_iff.mpr c.nd, fun a ha => c.lv a (sortN_mem.mp ha), fun a ha => sortN_mem.mpr (c.rt a ha), fun a ha b hb => sortN_mem.mpr (c.cl a (sortN_mem.mp ha) b hb)⟩
theorem Cl.len {h : Hx} (ok : Ok h) {L : List Nat} (c : Cl h L) : L.length ≤ 12 := by
  have := nodup_le c.nd fun a ha => (c.lv a ha).1
  have := ok.nc
  omega
def moveH (h : Hx) (L : List Nat) : Hx := ⟨h.rs.map (ren L), L.length, fun i => (L[i]?).bind fun a => (h.c a).map fun fs => fs.map (ren L)⟩
theorem ren_ln {L : List Nat} {f : Fd} {b : Nat} (h : ren L f = .ln b) : ∃ a, f = .ln a ∧ b = idx L a := by
  cases f with
  | no => cases h
  | nu i => cases h
  | ln a => cases h; exact ⟨a, rfl, rfl⟩
theorem idx_lt {L : List Nat} {a : Nat} (h : a ∈ L) : idx L a < L.length := List.idxOf_lt_length_of_mem h
theorem idx_get {L : List Nat} {a : Nat} (h : a ∈ L) : L[idx L a]? = some a := by
  unfold idx
  rw [List.getElem?_eq_getElem (List.idxOf_lt_length_of_mem h)]
  simp
theorem idx_inj {L : List Nat} {a b : Nat} (ha : a ∈ L) (hb : b ∈ L) (h : idx L a = idx L b) : a = b := by
  have h1 := idx_get ha
  rw [h, idx_get hb] at h1
  exact (Option.some.inj h1).symm
theorem moveH_ok {h : Hx} (ok : Ok h) {L : List Nat} (c : Cl h L) : Ok (moveH h L) := by
  have lv : ∀ a ∈ L, live (moveH h L) (idx L a) := fun a ha => by
    obtain ⟨h1, fs, h2⟩ := c.lv a ha
    exact ⟨idx_lt ha, fs.map (ren L), by show (L[idx L a]?).bind _ = _; rw [idx_get ha]; simp [h2]⟩
  have cc : ∀ i fs, (moveH h L).c i = some fs → ∃ a gs, a ∈ L ∧ h.c a = some gs ∧ fs = gs.map (ren L) := fun i fs e => by
    have e' : ((L[i]?).bind fun a => (h.c a).map fun fs => fs.map (ren L)) = some fs := e
    obtain ⟨a, ha, e2⟩ := Option.bind_eq_some_iff.mp e'
    obtain ⟨gs, hg, rfl⟩ := Option.map_eq_some_iff.mp e2
    exact ⟨a, gs, List.mem_of_getElem? ha, hg, rfl⟩
  refine ⟨fun b hb => ?_, fun i hi => ?_, fun i fs hi e b hb => ?_, fun i hi fs e => ?_, ?_, c.len ok, fun i hi => ?_⟩
  · obtain ⟨f, hf, e⟩ := List.mem_map.mp (show Fd.ln b ∈ h.rs.map (ren L) from hb)
    obtain ⟨a, rfl, rfl⟩ := ren_ln e
    exact lv a (c.rt a (mem_addrs.mpr hf))
  · obtain ⟨f, hf, e⟩ := List.mem_map.mp (show Fd.nu i ∈ h.rs.map (ren L) from hi)
    cases f with
    | no => cases e
    | ln a => cases e
    | nu j => exact ok.rn j hf
  · obtain ⟨a, gs, ha, hg, rfl⟩ := cc i fs e
    obtain ⟨f, hf, e⟩ := List.mem_map.mp hb
    obtain ⟨a', rfl, rfl⟩ := ren_ln e
    exact lv a' (c.cl a ha a' (by rw [hg]; exact mem_addrs.mpr hf))
  · obtain ⟨a, gs, ha, hg, rfl⟩ := cc i fs e
    have := ok.sz a (c.lv a ha).1 gs hg
    simpa using this
  · show (h.rs.map (ren L)).length ≤ 4
    simpa using ok.nr
  · show ((L[i]?).bind _) = none
    have : L.length ≤ i := hi
    rw [List.getElem?_eq_none this]; rfl
theorem moveH_cds (h : Hx) (L : List Nat) : (moveH h L).cds = .tup (L.map fun a => cd ((h.c a).map fun fs => fs.map (ren L))) := by
  rw [cds_d]
  congr 1
  refine List.ext_getElem (by simp [moveH]) fun i h1 h2 => ?_
  have : i < L.length := by simpa using h2
  simp [moveH, this]
theorem copy_move (h : Hx) : copyD' h = (moveH h h.met).d := by
  unfold copyD' Hx.d
  rw [moveH_cds]
  unfold copyRs copyCs
  rw [List.map_map (g := cd)]
  rfl
/-- moved by the order L, told as a tuple or a list -/
theorem moved_any {h : Hx} (ok : Ok h) {L : List Nat} (c : Cl h L) {d : D} {b : Bool} (hd : seqD d = some (b, L.map IN)) (hb : isBox d = true → ∃ ds, d = .lst ds) : K36.m_moved [h.d, d] = some (0, (moveH h L).d) := by
  refine def_of0 rfl (d_box _) fun Q hQ => ?_
  unfold K36.b_moved
  have h4 := ok.nr
  have hml := c.len ok
  have hml' : L.length ≤ 1000000 := by omega
  have hrl : h.rs.length ≤ 1000000 := by omega
  simp [Hx.d, hd, enum_map, hml']
  rw [compD_map (fun p : Nat × Nat => (Sum.inl (p.1 : Int) : Key)) (fun p => IN p.2) (nm_nodup c.nd) (fun _ _ => rfl) (by intro p hp; simp [elDB_s])]
  have e : ([] ++ (L.zipIdx.map fun p : Nat × Nat => ([(Sum.inl (p.1 : Int) : Key)], IN p.2))) = nmD L := rfl
  rw [e]
  simp [hd, hml']
  rw [comp_map fun a => cd ((h.c a).map fun fs => fs.map (ren L))]
  · simp [hrl]
    rw [comp_map fun f => (ren L f).d]
    · simp
      have e2 : D.tup [D.tup (h.rs.map fun f => (ren L f).d), D.tup (L.map fun a => cd ((h.c a).map fun fs => fs.map (ren L)))] = (moveH h L).d := by
        unfold Hx.d
        rw [moveH_cds]
        unfold moveH
        rw [List.map_map]; rfl
      rw [e2]
      exact hQ _
    · intro f hf
      cases f with
      | no => simp [ren]
      | nu i => exact absurd hf (ok.rn i)
      | ln a =>
        have := nm_val (c.rt a (mem_addrs.mpr hf))
        simp [ren, this]
  · intro a ha
    obtain ⟨ha1, fs, hfs⟩ := c.lv a ha
    have hl := (ok.sz a ha1 fs hfs).2
    have hl' : fs.length ≤ 1000000 := by omega
    simp [ix_cds ha1, hfs, hl']
    rw [comp_map fun f => (ren L f).d]
    · simp
    · intro f hf
      cases f with
      | no => simp [ren]
      | nu i => simp [ren]
      | ln b =>
        have := nm_val (c.cl a ha b (by rw [hfs]; exact mem_addrs.mpr hf))
        simp [ren, this]
theorem idxP_IN {a : Nat} : ∀ (L : List Nat) (s : Nat), a ∈ L → idxP (.int (a : Int)) (L.map fun n : Nat => PyData.int (n : Int)) s = some (s + idx L a)
  | [], _, h => by cases h
  | x :: L, s, h => by
    rw [List.map_cons]
    unfold idxP idx
    rw [List.idxOf_cons]
    by_cases e : x = a
    · subst e; simp [PyData.eqv]
    · have e1 : PyData.eqv (.int (x : Int)) (.int (a : Int)) = false := by simp [PyData.eqv]; omega
      have e2 : (x == a) = false := beq_eq_false_iff_ne.mpr e
      rw [e1, e2, if_neg Bool.false_ne_true, idxP_IN L (s + 1) (by rcases List.mem_cons.mp h with q | q; exact absurd q.symm e; exact q)]
      show some (s + 1 + List.idxOf a L) = some (s + (List.idxOf a L + 1))
      congr 1; omega
theorem lindex_IN {k l a : Nat} {L : List Nat} (hk : k ≤ 1) (h : a ∈ L) : gLIndex (k, .lst (L.map IN)) (l, .int (a : Int)) = some (0, .int ((idx L a : Nat) : Int)) := by
  have e3 : eqOk (l, .int (a : Int)) = true := by simp [eqOk]
  have e1 : SeqAt.shaped (.list (L.map fun n : Nat => PyData.int (n : Int))) = true := by
    unfold SeqAt.shaped
    rw [Bool.and_eq_true]
    refine ⟨(lay_IN L).1, decide_eq_true ?_⟩
    show PyData.depthAll _ + 1 ≤ 64
    have := (lay_IN L).2
    omega
  have e2 : SeqAt.shaped (.int (a : Int)) = true := by
    unfold SeqAt.shaped
    simp [PyData.canLay0, PyData.depth]
  unfold gLIndex
  dsimp only
  rw [if_pos ⟨hk, e3⟩, toPys_IN]
  have : toPy (.int (a : Int)) = some (.int (a : Int)) := rfl
  rw [this, Option.bind_some, Option.bind_some, if_pos ⟨e1, e2⟩, idxP_IN L 0 h, Nat.zero_add]
  rfl
theorem law_moved_run {h : Hx} (ok : Ok h) {L : List Nat} (c : Cl h L) : K35.m_law_moved [h.d, .lst (L.map IN)] = some (0, (moveH h L).d) := by
  refine def_of0 rfl (d_box _) fun Q hQ => ?_
  unfold K35.b_law_moved
  have h4 := ok.nr
  have hml := c.len ok
  simp
  refine wp_for (inj := IN) L (fun pre ρ => ∃ x y z, ρ = [some (0, h.d), some (0, .lst (L.map IN)), some (1, .lst (pre.map fun a => cd ((h.c a).map fun fs => fs.map (ren L)))), x, y, z, none, none]) rfl ⟨none, none, none, rfl⟩ ?_ ?_
  · rintro pre a post ρ hp ⟨x, y, z, rfl⟩
    have haL : a ∈ L := by rw [hp]; simp
    obtain ⟨ha1, fs, hfs⟩ := c.lv a haL
    have hl := (ok.sz a ha1 fs hfs).2
    have hpl : pre.length ≤ L.length := by rw [hp]; simp
    have hpl' : pre.length < 1000000 := by omega
    simp [ix_cds ha1, hfs]
    refine wp_for (inj := Fd.d) fs (fun pre2 ρ => ∃ z, ρ = [some (0, h.d), some (0, .lst (L.map IN)), some (1, .lst (pre.map fun a => cd ((h.c a).map fun fs => fs.map (ren L)))), some (0, .int (a : Int)), some (1, .lst ((pre2.map (ren L)).map Fd.d)), z, none, none]) rfl ⟨z, rfl⟩ ?_ ?_
    · rintro pre2 f post2 ρ hp2 ⟨z, rfl⟩
      have hpl2 : pre2.length ≤ fs.length := by rw [hp2]; simp
      have hpl2' : pre2.length < 1000000 := by omega
      have eqi : K35.m_law_is_int = K36.m_law_is_int := rfl
      cases f with
      | no => simp [eqi, Pv.big, hpl2', ren]
      | nu i => simp [eqi, Pv.big, hpl2', ren]
      | ln b =>
        have hb := c.cl a haL b (by rw [hfs]; exact mem_addrs.mpr (by rw [hp2]; simp))
        have := lindex_IN (k := 0) (l := 0) (by omega) hb
        simp [eqi, Pv.big, hpl2', ren, this]
    · rintro ρ ⟨z, rfl⟩
      simp [Pv.big, hpl', hfs]
  · rintro ρ ⟨x, y, z, rfl⟩
    simp
    refine wp_for (inj := Fd.d) h.rs (fun pre ρ => ∃ w, ρ = [some (0, h.d), some (0, .lst (L.map IN)), some (1, .lst (L.map fun a => cd ((h.c a).map fun fs => fs.map (ren L)))), x, y, z, some (1, .lst ((pre.map (ren L)).map Fd.d)), w]) rfl ⟨none, rfl⟩ ?_ ?_
    · rintro pre f post ρ hp ⟨w, rfl⟩
      have hpl : pre.length ≤ h.rs.length := by rw [hp]; simp
      have hpl' : pre.length < 1000000 := by omega
      cases f with
      | no => simp [Pv.big, hpl', ren]
      | nu i => exact absurd (by rw [hp]; simp) (ok.rn i)
      | ln b =>
        have hb := c.rt b (mem_addrs.mpr (by rw [hp]; simp))
        have := lindex_IN (k := 0) (l := 0) (by omega) hb
        simp [Pv.big, hpl', ren, this]
    · rintro ρ ⟨w, rfl⟩
      simp
      have e2 : D.tup [D.tup (h.rs.map (Fd.d ∘ ren L)), D.tup (L.map fun a => cd ((h.c a).map fun fs => fs.map (ren L)))] = (moveH h L).d := by
        unfold Hx.d
        rw [moveH_cds]
        unfold moveH
        rw [List.map_map]
      rw [e2]
      exact hQ _
end HP
set_option Elab.async false
set_option linter.all false
set_option maxRecDepth 100000
/-! J2: bijections keep the copy -/
namespace HP
open PySem L2 Pv
def mp (f : Nat → Nat) : Fd → Fd
  | .ln a => .ln (f a)
  | x => x
theorem addrs_mp (f : Nat → Nat) : ∀ fs : List Fd, addrs (fs.map (mp f)) = (addrs fs).map f
  | [] => rfl
  | .no :: fs => by rw [List.map_cons]; exact addrs_mp f fs
  | .nu i :: fs => by rw [List.map_cons]; exact addrs_mp f fs
  | .ln a :: fs => by rw [List.map_cons]; show f a :: addrs (fs.map (mp f)) = f a :: (addrs fs).map f; rw [addrs_mp f fs]
theorem held_mp (f : Nat → Nat) (c : Cell) : held (c.map fun fs => fs.map (mp f)) = (held c).map f := by
  cases c with
  | none => rfl
  | some fs => exact addrs_mp f fs
/-- f maps what h comes to onto g -/
structure Iso (h g : Hx) (f : Nat → Nat) : Prop where
  inj : ∀ a ∈ h.met, ∀ b ∈ h.met, f a = f b → a = b
  rs : g.rs = h.rs.map (mp f)
  cs : ∀ a ∈ h.met, g.c (f a) = (h.c a).map fun fs => fs.map (mp f)
theorem addNew_map {f : Nat → Nat} {S : Nat → Prop} (inj : ∀ a, S a → ∀ b, S b → f a = f b → a = b) : ∀ {as met : List Nat}, (∀ a ∈ met, S a) → (∀ a ∈ as, S a) → addNew (met.map f) (as.map f) = (addNew met as).map f
  | [], met, _, _ => rfl
  | a :: as, met, h1, h2 => by
    rw [List.map_cons, addNew_cons, addNew_cons]
    have ha := h2 a List.mem_cons_self
    have h2' := fun b hb => h2 b (List.mem_cons_of_mem _ hb)
    by_cases q : a ∈ met
    · rw [if_pos q, if_pos (List.mem_map_of_mem q)]
      exact addNew_map inj h1 h2'
    · have q2 : f a ∉ met.map f := fun z => by
        obtain ⟨b, hb, e⟩ := List.mem_map.mp z
        exact q (inj b (h1 b hb) a ha e ▸ hb)
      rw [if_neg q, if_neg q2, ← addNew_map inj (fun b hb => ?_) h2']
      · simp
      · rcases List.mem_append.mp hb with z | z
        · exact h1 b z
        · simp at z; rw [z]; exact ha
theorem walk_map {f : Nat → Nat} {S : Nat → Prop} {c c' : Nat → Cell} (inj : ∀ a, S a → ∀ b, S b → f a = f b → a = b) (cl : ∀ a, S a → ∀ b ∈ held (c a), S b) (he : ∀ a, S a → held (c' (f a)) = (held (c a)).map f) :
    ∀ (n t : Nat) (met : List Nat), (∀ a ∈ met, S a) → walk c' n t (met.map f) = (walk c n t met).map f
  | 0, _, _, _ => rfl
  | n + 1, t, met, hm => by
    unfold walk
    rw [List.length_map]
    by_cases ht : t < met.length
    · have h1 := hm _ (List.getElem_mem ht)
      rw [if_pos ht, if_pos ht, List.getElem?_eq_getElem ht, List.getElem?_eq_getElem (by simpa using ht)]
      simp only [Option.getD_some, List.getElem_map]
      rw [he _ h1, addNew_map inj hm (cl _ h1)]
      exact walk_map inj cl he n (t + 1) _ fun a ha => (addNew_mem.mp ha).elim (hm a) (cl _ h1 a)
    · rw [if_neg ht, if_neg ht]
      exact walk_map inj cl he n (t + 1) met hm
theorem walk_add (c : Nat → Cell) (m : Nat) : ∀ (n t : Nat) (met : List Nat), walk c (n + m) t met = walk c m (t + n) (walk c n t met)
  | 0, t, met => by rw [Nat.zero_add]; rfl
  | n + 1, t, met => by
    rw [show n + 1 + m = (n + m) + 1 by omega]
    show walk c (n + m) (t + 1) _ = walk c m (t + (n + 1)) (walk c n (t + 1) _)
    rw [walk_add c m n, show t + 1 + n = t + (n + 1) by omega]
theorem walk_long {h : Hx} (ok : Ok h) (m : Nat) : walk h.c (h.n + m) 0 (met0 h.rs) = h.met := by
  rw [walk_add]
  refine walk_end ?_
  have := nodup_le (met_lt ok).1 fun a ha => ((met_lt ok).2 a ha).1
  show h.met.length ≤ 0 + h.n
  omega
theorem Iso.met {h g : Hx} {f : Nat → Nat} (okh : Ok h) (okg : Ok g) (i : Iso h g f) : g.met = h.met.map f := by
  obtain ⟨k1, k2, k3⟩ := met_key okh
  rw [← walk_long okg h.n, ← walk_long okh g.n]
  have e0 : met0 g.rs = (met0 h.rs).map f := by
    unfold met0
    rw [i.rs, addrs_mp]
    exact addNew_map (S := fun a => a ∈ h.met) (met := []) (fun a ha b hb => i.inj a ha b hb) (fun a z => by cases z) k3
  rw [e0, Nat.add_comm g.n h.n]
  exact walk_map (S := fun a => a ∈ h.met) (fun a ha b hb => i.inj a ha b hb) k1 (fun a ha => by rw [i.cs a ha, held_mp]) _ _ _ fun a ha => by
    rcases addNew_mem.mp ha with z | z
    · cases z
    · exact k3 a z
theorem idx_map {f : Nat → Nat} {a : Nat} : ∀ {L : List Nat}, (∀ x ∈ L, f x = f a → x = a) → idx (L.map f) (f a) = idx L a
  | [], _ => rfl
  | x :: L, inj => by
    unfold idx
    rw [List.map_cons, List.idxOf_cons, List.idxOf_cons]
    have ih := idx_map (f := f) (a := a) (L := L) fun y hy => inj y (List.mem_cons_of_mem _ hy)
    unfold idx at ih
    rw [ih]
    by_cases e : x = a
    · subst e; simp
    · have e2 : ¬ f x = f a := fun z => e (inj x List.mem_cons_self z)
      have h1 : (x == a) = false := beq_eq_false_iff_ne.mpr e
      have h2 : (f x == f a) = false := beq_eq_false_iff_ne.mpr e2
      rw [h1, h2]
theorem Iso.copy {h g : Hx} {f : Nat → Nat} (okh : Ok h) (okg : Ok g) (i : Iso h g f) : copyRs g = copyRs h ∧ copyCs g = copyCs h := by
  obtain ⟨k1, k2, k3⟩ := met_key okh
  have hm := i.met okh okg
  have key : ∀ x, (∀ a, x = Fd.ln a → a ∈ h.met) → ren g.met (mp f x) = ren h.met x := fun x hx => by
    cases x with
    | no => rfl
    | nu j => rfl
    | ln a =>
      show Fd.ln (idx g.met (f a)) = Fd.ln (idx h.met a)
      rw [hm, idx_map fun y hy e => i.inj y hy a (hx a rfl) e]
  constructor
  · unfold copyRs
    rw [i.rs, List.map_map]
    exact List.map_congr_left fun x hx => key x fun a e => k3 a (mem_addrs.mpr (e ▸ hx))
  · unfold copyCs
    rw [hm, List.map_map]
    refine List.map_congr_left fun a ha => ?_
    show (g.c (f a)).map _ = (h.c a).map _
    rw [i.cs a ha, Option.map_map]
    cases hc : h.c a with
    | none => rfl
    | some fs =>
      simp only [Option.map_some, Function.comp]
      congr 1
      rw [List.map_map]
      refine List.map_congr_left fun x hx => ?_
      have := key x fun b e => k1 a ha b (by rw [hc]; exact mem_addrs.mpr (e ▸ hx))
      rw [hm] at this
      exact this
theorem mp_id (x : Fd) : mp id x = x := by cases x <;> rfl
theorem map_id' (fs : List Fd) : fs.map (mp id) = fs := by
  have : mp id = id := funext mp_id
  rw [this]; simp
theorem iso_keep {h : Hx} (ok : Ok h) : Iso h (keep h) id := by
  refine ⟨fun a _ b _ e => e, (map_id' _).symm, fun a ha => ?_⟩
  show (if a ∈ h.met then h.c a else none) = _
  rw [if_pos ha]
  cases h.c a with
  | none => rfl
  | some fs => simp [map_id']
theorem ren_mp (L : List Nat) : ren L = mp (idx L) := by funext x; cases x <;> rfl
theorem iso_move {h : Hx} (ok : Ok h) {L : List Nat} (c : Cl h L) : Iso h (moveH h L) (idx L) := by
  have hs : ∀ a ∈ h.met, a ∈ L := by
    have key : ∀ (n t : Nat) (met : List Nat), (∀ a ∈ met, a ∈ L) → ∀ a ∈ walk h.c n t met, a ∈ L := by
      intro n
      induction n with
      | zero => intro t met hm; exact hm
      | succ n ih =>
        intro t met hm
        unfold walk
        by_cases ht : t < met.length
        · rw [if_pos ht, List.getElem?_eq_getElem ht]
          exact ih _ _ fun a ha => (addNew_mem.mp ha).elim (hm a) (c.cl _ (hm _ (List.getElem_mem ht)) a)
        · rw [if_neg ht]; exact ih _ _ hm
    refine key _ _ _ fun a ha => ?_
    rcases addNew_mem.mp ha with z | z
    · cases z
    · exact c.rt a z
  refine ⟨fun a ha b hb e => idx_inj (hs a ha) (hs b hb) e, by rw [← ren_mp]; rfl, fun a ha => ?_⟩
  show ((L[idx L a]?).bind fun a => (h.c a).map fun fs => fs.map (ren L)) = _
  rw [idx_get (hs a ha), ← ren_mp]; rfl
end HP
set_option Elab.async false
set_option linter.all false
set_option maxRecDepth 100000
/-! J3: same_heap tells whether the copies are the same -/
namespace HP
open PySem L2 Pv
def pr2 (p : Fd × Fd) : D := .tup [p.1.d, p.2.d]
def fwD (P : List (Nat × Nat)) : List (List Key × D) := P.map fun p : Nat × Nat => ([.inl (p.1 : Int)], IN p.2)
def bwD (P : List (Nat × Nat)) : List (List Key × D) := P.map fun p : Nat × Nat => ([.inl (p.2 : Int)], IN p.1)
def look1 : List (Nat × Nat) → Nat → Option Nat
  | [], _ => none
  | p :: P, a => if p.1 = a then some p.2 else look1 P a
def look2 : List (Nat × Nat) → Nat → Option Nat
  | [], _ => none
  | p :: P, b => if p.2 = b then some p.1 else look2 P b
theorem key_eq {x a : Nat} : ([(Sum.inl (x : Int) : Key)] = [Sum.inl (a : Int)]) ↔ x = a := by
  constructor
  · intro z
    have := Sum.inl.inj (List.cons.inj z).1
    omega
  · rintro rfl; rfl
theorem fw_val {a : Nat} : ∀ {P : List (Nat × Nat)}, valD (fwD P) [.inl (a : Int)] = (look1 P a).map IN
  | [] => rfl
  | p :: P => by
    show valD (([.inl (p.1 : Int)], IN p.2) :: fwD P) _ = _
    unfold valD look1
    by_cases e : p.1 = a
    · rw [if_pos e, if_pos (key_eq.mpr e)]; rfl
    · rw [if_neg e, if_neg (fun z => e (key_eq.mp z)), fw_val]
theorem bw_val {b : Nat} : ∀ {P : List (Nat × Nat)}, valD (bwD P) [.inl (b : Int)] = (look2 P b).map IN
  | [] => rfl
  | p :: P => by
    show valD (([.inl (p.2 : Int)], IN p.1) :: bwD P) _ = _
    unfold valD look2
    by_cases e : p.2 = b
    · rw [if_pos e, if_pos (key_eq.mpr e)]; rfl
    · rw [if_neg e, if_neg (fun z => e (key_eq.mp z)), bw_val]
theorem fw_put {a b : Nat} {P : List (Nat × Nat)} (h : look1 P a = none) : putD (fwD P) [.inl (a : Int)] (.int (b : Int)) = fwD (P ++ [(a, b)]) := by
  unfold putD
  rw [fw_val, h]
  simp [fwD]
theorem bw_put {a b : Nat} {P : List (Nat × Nat)} (h : look2 P b = none) : putD (bwD P) [.inl (b : Int)] (.int (a : Int)) = bwD (P ++ [(a, b)]) := by
  unfold putD
  rw [bw_val, h]
  simp [bwD]
theorem look1_mem {a b : Nat} : ∀ {P : List (Nat × Nat)}, look1 P a = some b → (a, b) ∈ P
  | [], h => by cases h
  | p :: P, h => by
    unfold look1 at h
    split at h
    · rename_i e; cases h; subst e; exact List.mem_cons_self
    · exact List.mem_cons_of_mem _ (look1_mem h)
theorem look1_none {a : Nat} : ∀ {P : List (Nat × Nat)}, look1 P a = none → ∀ b, (a, b) ∉ P
  | [], _, _ => by simp
  | p :: P, h, b => by
    unfold look1 at h
    split at h
    · cases h
    · rename_i e
      intro z
      rcases List.mem_cons.mp z with q | q
      · exact e (by rw [← q])
      · exact look1_none h b q
theorem look2_none {b : Nat} : ∀ {P : List (Nat × Nat)}, look2 P b = none → ∀ a, (a, b) ∉ P
  | [], _, _ => by simp
  | p :: P, h, a => by
    unfold look2 at h
    split at h
    · cases h
    · rename_i e
      intro z
      rcases List.mem_cons.mp z with q | q
      · exact e (by rw [← q])
      · exact look2_none h a q
theorem look2_mem {a b : Nat} : ∀ {P : List (Nat × Nat)}, look2 P b = some a → (a, b) ∈ P
  | [], h => by cases h
  | p :: P, h => by
    unfold look2 at h
    split at h
    · rename_i e; cases h; subst e; exact List.mem_cons_self
    · exact List.mem_cons_of_mem _ (look2_mem h)
theorem look1_of {a b : Nat} : ∀ {P : List (Nat × Nat)}, (P.map Prod.fst).Nodup → (a, b) ∈ P → look1 P a = some b
  | [], _, h => by cases h
  | p :: P, nd, h => by
    rw [List.map_cons, List.nodup_cons] at nd
    unfold look1
    rcases List.mem_cons.mp h with q | q
    · rw [← q, if_pos rfl]
    · have : ¬ p.1 = a := fun z => nd.1 (by rw [z]; exact List.mem_map.mpr ⟨_, q, rfl⟩)
      rw [if_neg this]
      exact look1_of nd.2 q
theorem look2_of {a b : Nat} : ∀ {P : List (Nat × Nat)}, (P.map Prod.snd).Nodup → (a, b) ∈ P → look2 P b = some a
  | [], _, h => by cases h
  | p :: P, nd, h => by
    rw [List.map_cons, List.nodup_cons] at nd
    unfold look2
    rcases List.mem_cons.mp h with q | q
    · rw [← q, if_pos rfl]
    · have : ¬ p.2 = b := fun z => nd.1 (by rw [z]; exact List.mem_map.mpr ⟨_, q, rfl⟩)
      rw [if_neg this]
      exact look2_of nd.2 q
theorem eqv_nn (p : List PyData) : PyData.eqv .none (.tuple p) = false := by simp [PyData.eqv]
theorem ne_fd (k l : Nat) (x y : Fd) : gNe (k, x.d) (l, y.d) = some (0, .bl (!decide (x = y))) := by
  have hn : PyData.strOk "num" = true := by decide +kernel
  cases x with
  | no =>
    cases y with
    | no => simp
    | ln b => simp
    | nu j =>
      simp [gNe, eqOk, gEqD, gEqS, toPy, toPys, gEqP, SeqAt.shaped, PyData.canLay0, PyData.canLayAll0, PyData.depth, PyData.depthAll, hn, PyData.eqv]
  | ln a =>
    cases y with
    | no => simp
    | ln b => simp; omega
    | nu j =>
      simp [gNe, eqOk, gEqD, gEqS, toPy, toPys, gEqP, SeqAt.shaped, PyData.canLay0, PyData.canLayAll0, PyData.depth, PyData.depthAll, hn, PyData.eqv]
  | nu i =>
    cases y with
    | no => simp [gNe, eqOk, gEqD, gEqS, toPy, toPys, gEqP, SeqAt.shaped, PyData.canLay0, PyData.canLayAll0, PyData.depth, PyData.depthAll, hn, PyData.eqv]
    | ln b => simp [gNe, eqOk, gEqD, gEqS, toPy, toPys, gEqP, SeqAt.shaped, PyData.canLay0, PyData.canLayAll0, PyData.depth, PyData.depthAll, hn, PyData.eqv]
    | nu j =>
      simp [gNe, eqOk, gEqD, gEqS, toPy, toPys, gEqP, SeqAt.shaped, PyData.canLay0, PyData.canLayAll0, PyData.depth, PyData.depthAll, hn, PyData.eqv, PyData.eqvAll]
      rw [Bool.eq_iff_iff]; simp
/-- what holds in each turn -/
structure Base (h g : Hx) (w : List (Fd × Fd)) (P : List (Nat × Nat)) : Prop where
  n1 : (P.map Prod.fst).Nodup
  n2 : (P.map Prod.snd).Nodup
  pl : ∀ p ∈ P, live h p.1 ∧ live g p.2
  wl : ∀ q ∈ w, (∀ a, q.1 = .ln a → live h a) ∧ (∀ b, q.2 = .ln b → live g b)
theorem Base.drop {h g : Hx} {w : List (Fd × Fd)} {q : Fd × Fd} {P : List (Nat × Nat)} (b : Base h g (w ++ [q]) P) : Base h g w P := ⟨b.n1, b.n2, b.pl, fun p hp => b.wl p (List.mem_append_left _ hp)⟩
theorem Base.len {h g : Hx} {w : List (Fd × Fd)} {P : List (Nat × Nat)} (b : Base h g w P) : P.length ≤ h.n := by
  have := nodup_le (n := h.n) b.n1 fun a ha => by
    obtain ⟨p, hp, rfl⟩ := List.mem_map.mp ha
    exact (b.pl p hp).1.1
  simpa using this
theorem Base.add {h g : Hx} (okh : Ok h) (okg : Ok g) {w : List (Fd × Fd)} {a b : Nat} {P : List (Nat × Nat)} {fs gs : List Fd} (B : Base h g (w ++ [(.ln a, .ln b)]) P) (h1 : look1 P a = none) (h2 : look2 P b = none) (hf : h.c a = some fs) (hg : g.c b = some gs) : Base h g (w ++ fs.zip gs) (P ++ [(a, b)]) := by
  obtain ⟨l1, l2⟩ := B.wl (.ln a, .ln b) (by simp)
  have la := l1 a rfl
  have lb := l2 b rfl
  refine ⟨?_, ?_, fun p hp => ?_, fun q hq => ?_⟩
  · rw [List.map_append]
    refine List.nodup_append.mpr ⟨B.n1, by simp, fun x hx y hy e => ?_⟩
    simp at hy
    obtain ⟨p, hp, rfl⟩ := List.mem_map.mp hx
    exact look1_none h1 p.2 (by rw [← hy, ← e]; exact hp)
  · rw [List.map_append]
    refine List.nodup_append.mpr ⟨B.n2, by simp, fun x hx y hy e => ?_⟩
    simp at hy
    obtain ⟨p, hp, rfl⟩ := List.mem_map.mp hx
    exact look2_none h2 p.1 (by rw [← hy, ← e]; exact hp)
  · rcases List.mem_append.mp hp with q | q
    · exact B.pl p q
    · simp at q; rw [q]; exact ⟨la, lb⟩
  · rcases List.mem_append.mp hq with z | z
    · exact B.wl q (List.mem_append_left _ z)
    · have := List.of_mem_zip z
      exact ⟨fun c e => okh.cl a fs la.1 hf c (e ▸ this.1), fun c e => okg.cl b gs lb.1 hg c (e ▸ this.2)⟩
theorem same_core {h g : Hx} (okh : Ok h) (okg : Ok g) (B : Bool) (J : List (Fd × Fd) → List (Nat × Nat) → Prop) (hl : h.rs.length ≠ g.rs.length → B = false) (j0 : h.rs.length = g.rs.length → J (h.rs.zip g.rs) [])
    (s1 : ∀ w P x y, J (w ++ [(x, y)]) P → (x.isLn = false ∨ y.isLn = false) → (x = y → J w P) ∧ (x ≠ y → B = false))
    (s2 : ∀ w P a b, Base h g (w ++ [(.ln a, .ln b)]) P → J (w ++ [(.ln a, .ln b)]) P → (look1 P a ≠ none ∨ look2 P b ≠ none) → ((look1 P a = some b ∧ look2 P b = some a) → J w P) ∧ (¬ (look1 P a = some b ∧ look2 P b = some a) → B = false))
    (s3 : ∀ w P a b fs gs, J (w ++ [(.ln a, .ln b)]) P → look1 P a = none → look2 P b = none → h.c a = some fs → g.c b = some gs → (fs.length = gs.length → J (w ++ fs.zip gs) (P ++ [(a, b)])) ∧ (fs.length ≠ gs.length → B = false))
    (s4 : ∀ P, Base h g [] P → J [] P → B = true) : K36.m_same_heap [h.d, g.d] = some (0, .bl B) := by
  refine def_of0 rfl (by cases B <;> rfl) fun Q hQ => ?_
  unfold K36.b_same_heap
  have h4 := okh.nr
  have h12 := okh.nc
  by_cases hlen : h.rs.length = g.rs.length
  · have hrl : g.rs.length ≤ 1000000 := by omega
    have hlen' : (h.rs.length : Int) = (g.rs.length : Int) := by omega
    have j0 := j0 hlen
    have hQf : B = false → ∀ ρ, Q (.rt (0, .bl false)) ρ := fun e ρ => by have := hQ ρ; rw [e] at this; exact this
    have hQt : B = true → ∀ ρ, Q (.rt (0, .bl true)) ρ := fun e ρ => by have := hQ ρ; rw [e] at this; exact this
    have hmin : min h.rs.length g.rs.length ≤ 1000000 := by omega
    simp [hlen', hmin, zip_map]
    refine wp_while (fun m ρ => ∃ (w : List (Fd × Fd)) (P : List (Nat × Nat)) (x y z u : Option W), m = w.length + 5 * (h.n - P.length) ∧ m ≤ 64 ∧ Base h g w P ∧ J w P ∧
      ρ = [some (0, h.d), some (0, g.d), some (1, .dct false (fwD P)), some (1, .dct false (bwD P)), some (1, .lst (w.map pr2)), x, y, z, u]) ⟨h.rs.zip g.rs, [], none, none, none, none, rfl, by simp; omega, ⟨List.nodup_nil, List.nodup_nil, (fun p hp => by cases hp), fun q hq => ?_⟩, j0, rfl⟩ (by show (h.rs.zip g.rs).length + 5 * (h.n - 0) < 1000000; simp; omega) ?_
    · have := List.of_mem_zip hq
      exact ⟨fun c e => okh.rl c (e ▸ this.1), fun c e => okg.rl c (e ▸ this.2)⟩
    rintro m ρ ⟨w, P, x, y, z, u, rfl, hm, bs, j, rfl⟩
    rcases List.eq_nil_or_concat w with rfl | ⟨w', q, rfl⟩
    · simp
      exact hQt (s4 P bs j) _
    · obtain ⟨x1, y1⟩ := q
      rw [List.concat_eq_append] at *
      have hpl := bs.len
      simp at hm
      have ne1 := ne_fd 0 0 x1 y1
      by_cases hx : x1.isLn = true ∧ y1.isLn = true
      · obtain ⟨a, rfl⟩ : ∃ a, x1 = .ln a := by cases x1 <;> simp [Fd.isLn] at hx; exact ⟨_, rfl⟩
        obtain ⟨b, rfl⟩ : ∃ b, y1 = .ln b := by cases y1 <;> simp [Fd.isLn] at hx; exact ⟨_, rfl⟩
        obtain ⟨l1, l2⟩ := bs.wl (.ln a, .ln b) (by simp)
        obtain ⟨ha1, fs, hfs⟩ := l1 a rfl
        obtain ⟨hb1, gs, hgs⟩ := l2 b rfl
        by_cases hin : look1 P a ≠ none ∨ look2 P b ≠ none
        · obtain ⟨t1, t2⟩ := s2 w' P a b bs j hin
          by_cases hok : look1 P a = some b ∧ look2 P b = some a
          · simp [List.map_append, pr2, emp_app, Fd.isLn, fw_val, bw_val, hok.1, hok.2]
            exact ⟨w'.length + 5 * (h.n - P.length), by omega, w', P, rfl, by omega, bs.drop, t1 hok, rfl, rfl, rfl⟩
          · have hf := hQf (t2 hok)
            rcases h1 : look1 P a with _ | b'
            · rcases h2 : look2 P b with _ | a'
              · rw [h1, h2] at hin; simp at hin
              · simp [List.map_append, pr2, emp_app, Fd.isLn, fw_val, bw_val, h1, h2]
                exact hf _
            · by_cases hbb : b' = b
              · subst hbb
                rcases h2 : look2 P b' with _ | a'
                · simp [List.map_append, pr2, emp_app, Fd.isLn, fw_val, bw_val, h1, h2]
                  exact hf _
                · have haa : ¬ a' = a := fun e => hok ⟨h1, by rw [h2, e]⟩
                  have haa' : ¬ (a' : Int) = (a : Int) := by omega
                  simp [List.map_append, pr2, emp_app, Fd.isLn, fw_val, bw_val, h1, h2, haa, haa']
                  exact hf _
              · have hbb' : ¬ (b' : Int) = (b : Int) := by omega
                simp [List.map_append, pr2, emp_app, Fd.isLn, fw_val, bw_val, h1, hbb, hbb']
                exact hf _
        · have h1 : look1 P a = none := Classical.not_not.mp fun z => hin (.inl z)
          have h2 : look2 P b = none := Classical.not_not.mp fun z => hin (.inr z)
          obtain ⟨t1, t2⟩ := s3 w' P a b fs gs j h1 h2 hfs hgs
          have bn := bs.add okh okg h1 h2 hfs hgs
          have hbl := bn.len
          have hl1 := (okh.sz a ha1 fs hfs).2
          simp at hbl
          have e1 : (fwD P).length < 1000000 := by simp [fwD]; omega
          have e2 : (bwD P).length < 1000000 := by simp [bwD]; omega
          by_cases hle : fs.length = gs.length
          · have hle' : (fs.length : Int) = (gs.length : Int) := by omega
            have hgl : gs.length ≤ 1000000 := by omega
            have hwl : w'.length + gs.length ≤ 1000000 := by omega
            simp [List.map_append, pr2, emp_app, Fd.isLn, fw_val, bw_val, h1, h2, fw_put h1, bw_put h2, Pv.big, e1, e2, ix_cds ha1, ix_cds hb1, hfs, hgs, hle, hle', hgl, zip_map, hwl]
            refine ⟨w'.length + gs.length + 5 * (h.n - (P.length + 1)), by omega, w' ++ fs.zip gs, P ++ [(a, b)], by simp [hle], by omega, bn, t1 hle, rfl, rfl, by simp [pr2]⟩
          · have hle' : ¬ (fs.length : Int) = (gs.length : Int) := by omega
            simp [List.map_append, pr2, emp_app, Fd.isLn, fw_val, bw_val, h1, h2, fw_put h1, bw_put h2, Pv.big, e1, e2, ix_cds ha1, ix_cds hb1, hfs, hgs, hle, hle']
            exact hQf (t2 hle) _
      · have hx' : x1.isLn = false ∨ y1.isLn = false := by
          cases h1 : x1.isLn with
          | false => exact .inl rfl
          | true =>
            cases h2 : y1.isLn with
            | false => exact .inr rfl
            | true => exact absurd ⟨h1, h2⟩ hx
        obtain ⟨t1, t2⟩ := s1 w' P x1 y1 j hx'
        have adx := is_address x1
        have ady := is_address y1
        have hor : ∀ ρ : Pv.Env, ρ[6]?.join = some (0, y1.d) → orR (some (!x1.isLn)) (bNot (bVal (pFn K36.m_is_address [] (aCons (pBv 6) aNil)))) ρ = some true := fun ρ hr => by
          rcases hx' with q | q
          · rw [q]; rfl
          · cases h1 : x1.isLn with
            | false => rfl
            | true => simp [hr, ady, q]
        by_cases exy : x1 = y1
        · have j2 := t1 exy
          subst exy
          have hy : x1.isLn = false := hx'.elim id id
          simp [List.map_append, pr2, emp_app, adx, hy, ne1]
          exact ⟨w'.length + 5 * (h.n - P.length), by omega, w', P, rfl, by omega, bs.drop, j2, rfl, rfl, rfl⟩
        · simp [List.map_append, pr2, emp_app, adx, ady, hor, ne1, exy]
          exact hQf (t2 exy) _
  · have hlen' : ¬ (h.rs.length : Int) = (g.rs.length : Int) := by omega
    simp [hlen']
    have := hQ
    rw [hl hlen] at this
    exact this _
/-! when the copies are the same -/
theorem met_least {h : Hx} {S : Nat → Prop} (rt : ∀ a ∈ addrs h.rs, S a) (cl : ∀ a, S a → ∀ b ∈ held (h.c a), S b) : ∀ a ∈ h.met, S a := by
  have key : ∀ (n t : Nat) (met : List Nat), (∀ a ∈ met, S a) → ∀ a ∈ walk h.c n t met, S a := by
    intro n
    induction n with
    | zero => intro t met hm; exact hm
    | succ n ih =>
      intro t met hm
      unfold walk
      by_cases ht : t < met.length
      · rw [if_pos ht, List.getElem?_eq_getElem ht]
        exact ih _ _ fun a ha => (addNew_mem.mp ha).elim (hm a) (cl _ (hm _ (List.getElem_mem ht)) a)
      · rw [if_neg ht]; exact ih _ _ hm
  refine key _ _ _ fun a ha => ?_
  rcases addNew_mem.mp ha with z | z
  · cases z
  · exact rt a z
theorem ren_inv {L : List Nat} {x : Fd} {L' : List Nat} {y : Fd} (h : ren L x = ren L' y) : (x = y ∧ x.isLn = false) ∨ ∃ a b, x = .ln a ∧ y = .ln b ∧ idx L a = idx L' b := by
  cases x <;> cases y <;> simp [ren, Fd.isLn] at h ⊢ <;> exact h
theorem zip_rel {α β γ : Type} {f : α → γ} {g : β → γ} : ∀ {xs : List α} {ys : List β}, xs.map f = ys.map g → ∀ q ∈ xs.zip ys, f q.1 = g q.2
  | [], _, _, q, hq => by simp at hq
  | x :: xs, [], _, q, hq => by simp at hq
  | x :: xs, y :: ys, h, q, hq => by
    rw [List.map_cons, List.map_cons] at h
    rw [List.zip_cons_cons] at hq
    have h1 := (List.cons.inj h).1
    rcases List.mem_cons.mp hq with e | e
    · rw [e]; exact h1
    · exact zip_rel (List.cons.inj h).2 q e
def Rel (h g : Hx) (q : Fd × Fd) : Prop := ren h.met q.1 = ren g.met q.2 ∧ (∀ a, q.1 = .ln a → a ∈ h.met) ∧ (∀ b, q.2 = .ln b → b ∈ g.met)
theorem same_eq {h g : Hx} (okh : Ok h) (okg : Ok g) (e1 : copyRs h = copyRs g) (e2 : copyCs h = copyCs g) : K36.m_same_heap [h.d, g.d] = some (0, .bl true) := by
  obtain ⟨k1, k2, k3⟩ := met_key okh
  obtain ⟨m1, m2, m3⟩ := met_key okg
  have hlen : h.rs.length = g.rs.length := by
    have := congrArg List.length e1
    simpa [copyRs] using this
  have cells : ∀ a ∈ h.met, ∀ b ∈ g.met, idx h.met a = idx g.met b → (h.c a).map (fun fs => fs.map (ren h.met)) = (g.c b).map fun fs => fs.map (ren g.met) := by
    intro a ha b hb e
    have h1 : (copyCs h)[idx h.met a]? = some ((h.c a).map fun fs => fs.map (ren h.met)) := by
      unfold copyCs; rw [List.getElem?_map, idx_get ha]; rfl
    have h2 : (copyCs g)[idx g.met b]? = some ((g.c b).map fun fs => fs.map (ren g.met)) := by
      unfold copyCs; rw [List.getElem?_map, idx_get hb]; rfl
    rw [e2, e, h2] at h1
    exact (Option.some.inj h1).symm
  refine same_core okh okg true (fun w P => (∀ q ∈ w, Rel h g q) ∧ ∀ p ∈ P, p.1 ∈ h.met ∧ p.2 ∈ g.met ∧ idx h.met p.1 = idx g.met p.2) (fun z => absurd hlen z) (fun _ => ⟨fun q hq => ?_, fun p hp => by cases hp⟩) (fun w P x y j hx => ?_) (fun w P a b bs j hin => ?_) (fun w P a b fs gs j h1 h2 hf hg => ?_) (fun _ _ _ => rfl)
  · have := List.of_mem_zip hq
    exact ⟨zip_rel e1 q hq, fun a e => k3 a (mem_addrs.mpr (e ▸ this.1)), fun b e => m3 b (mem_addrs.mpr (e ▸ this.2))⟩
  · obtain ⟨r1, r2, r3⟩ := j.1 (x, y) (by simp)
    refine ⟨fun _ => ⟨fun q hq => j.1 q (List.mem_append_left _ hq), j.2⟩, fun ne => ?_⟩
    rcases ren_inv r1 with ⟨e, _⟩ | ⟨a, b, ea, eb, _⟩
    · exact absurd e ne
    · have ea : x = .ln a := ea
      have eb : y = .ln b := eb
      subst ea eb
      rcases hx with z | z <;> cases z
  · obtain ⟨r1, r2, r3⟩ := j.1 (.ln a, .ln b) (by simp)
    have ha := r2 a rfl
    have hb := r3 b rfl
    have hi : idx h.met a = idx g.met b := by
      rcases ren_inv r1 with ⟨_, z⟩ | ⟨a', b', ea, eb, e⟩
      · cases z
      · cases ea; cases eb; exact e
    have key : look1 P a = some b ∧ look2 P b = some a := by
      have hab : (a, b) ∈ P := by
        rcases hin with z | z
        · obtain ⟨b', hb'⟩ := Option.ne_none_iff_exists'.mp z
          have hm := look1_mem hb'
          obtain ⟨p1, p2, p3⟩ := j.2 _ hm
          have : b' = b := idx_inj p2 hb (by rw [← p3]; exact hi)
          rw [← this]; exact hm
        · obtain ⟨a', ha'⟩ := Option.ne_none_iff_exists'.mp z
          have hm := look2_mem ha'
          obtain ⟨p1, p2, p3⟩ := j.2 _ hm
          have : a' = a := idx_inj p1 ha (by rw [p3]; exact hi.symm)
          rw [← this]; exact hm
      exact ⟨look1_of bs.n1 hab, look2_of bs.n2 hab⟩
    exact ⟨fun _ => ⟨fun q hq => j.1 q (List.mem_append_left _ hq), j.2⟩, fun z => absurd key z⟩
  · obtain ⟨r1, r2, r3⟩ := j.1 (.ln a, .ln b) (by simp)
    have ha := r2 a rfl
    have hb := r3 b rfl
    have hi : idx h.met a = idx g.met b := by
      rcases ren_inv r1 with ⟨_, z⟩ | ⟨a', b', ea, eb, e⟩
      · cases z
      · cases ea; cases eb; exact e
    have hc := cells a ha b hb hi
    rw [hf, hg] at hc
    have hc : fs.map (ren h.met) = gs.map (ren g.met) := Option.some.inj hc
    have hl : fs.length = gs.length := by simpa using congrArg List.length hc
    refine ⟨fun _ => ⟨fun q hq => ?_, fun p hp => ?_⟩, fun z => absurd hl z⟩
    · rcases List.mem_append.mp hq with z | z
      · exact j.1 q (List.mem_append_left _ z)
      · have := List.of_mem_zip z
        exact ⟨zip_rel hc q z, fun a' e => k1 a ha a' (by rw [hf]; exact mem_addrs.mpr (e ▸ this.1)), fun b' e => m1 b hb b' (by rw [hg]; exact mem_addrs.mpr (e ▸ this.2))⟩
    · rcases List.mem_append.mp hp with z | z
      · exact j.2 p z
      · simp at z; rw [z]; exact ⟨ha, hb, hi⟩
/-! when they are not -/
def Stl (P : List (Nat × Nat)) (q : Fd × Fd) : Prop := (q.1 = q.2 ∧ q.1.isLn = false) ∨ ∃ a b, q.1 = .ln a ∧ q.2 = .ln b ∧ (a, b) ∈ P
theorem Stl.mono {P P' : List (Nat × Nat)} {q : Fd × Fd} (s : Stl P q) (h : ∀ p ∈ P, p ∈ P') : Stl P' q := s.elim .inl fun ⟨a, b, e1, e2, e3⟩ => .inr ⟨a, b, e1, e2, h _ e3⟩
structure Near (h g : Hx) (w : List (Fd × Fd)) (P : List (Nat × Nat)) : Prop where
  len : h.rs.length = g.rs.length
  rs : ∀ q ∈ h.rs.zip g.rs, q ∈ w ∨ Stl P q
  cs : ∀ p ∈ P, ∃ fs gs, h.c p.1 = some fs ∧ g.c p.2 = some gs ∧ fs.length = gs.length ∧ ∀ q ∈ fs.zip gs, q ∈ w ∨ Stl P q
theorem Near.step {h g : Hx} {w w' : List (Fd × Fd)} {P P' : List (Nat × Nat)} (n : Near h g w P) (hw : ∀ q ∈ w, q ∈ w' ∨ Stl P' q) (hp : ∀ p ∈ P, p ∈ P') (hn : ∀ p ∈ P', p ∈ P ∨ ∃ fs gs, h.c p.1 = some fs ∧ g.c p.2 = some gs ∧ fs.length = gs.length ∧ ∀ q ∈ fs.zip gs, q ∈ w' ∨ Stl P' q) : Near h g w' P' := by
  have up : ∀ q, q ∈ w ∨ Stl P q → q ∈ w' ∨ Stl P' q := fun q z => z.elim (hw q) fun s => .inr (s.mono hp)
  refine ⟨n.len, fun q hq => up q (n.rs q hq), fun p hp' => ?_⟩
  rcases hn p hp' with z | z
  · obtain ⟨fs, gs, e1, e2, e3, e4⟩ := n.cs p z
    exact ⟨fs, gs, e1, e2, e3, fun q hq => up q (e4 q hq)⟩
  · exact z
theorem zip_map_of {f : Fd → Fd} : ∀ {xs ys : List Fd}, xs.length = ys.length → (∀ q ∈ xs.zip ys, q.2 = f q.1) → ys = xs.map f
  | [], [], _, _ => rfl
  | [], _ :: _, h, _ => by simp at h
  | _ :: _, [], h, _ => by simp at h
  | x :: xs, y :: ys, h, hq => by
    have h1 : y = f x := hq (x, y) (by simp)
    rw [List.map_cons, ← h1, ← zip_map_of (by simpa using h) fun q z => hq q (by rw [List.zip_cons_cons]; exact List.mem_cons_of_mem _ z)]
theorem mem_zip_left {x : Fd} : ∀ {xs ys : List Fd}, xs.length = ys.length → x ∈ xs → ∃ y, (x, y) ∈ xs.zip ys
  | [], _, _, h => by cases h
  | _ :: _, [], h, _ => by simp at h
  | x' :: xs, y :: ys, h, hx => by
    rcases List.mem_cons.mp hx with e | e
    · exact ⟨y, by rw [e]; simp⟩
    · obtain ⟨z, hz⟩ := mem_zip_left (by simpa using h) e
      exact ⟨z, by rw [List.zip_cons_cons]; exact List.mem_cons_of_mem _ hz⟩
theorem near_iso {h g : Hx} {P : List (Nat × Nat)} (bs : Base h g [] P) (n : Near h g [] P) : Iso h g fun a => (look1 P a).getD 0 := by
  have st : ∀ q, q ∈ ([] : List (Fd × Fd)) ∨ Stl P q → Stl P q := fun q z => z.elim (fun z => by cases z) id
  have fo : ∀ a b, (a, b) ∈ P → (look1 P a).getD 0 = b := fun a b hp => by rw [look1_of bs.n1 hp]; rfl
  have mpo : ∀ q, Stl P q → q.2 = mp (fun a => (look1 P a).getD 0) q.1 := fun q s => by
    obtain ⟨x, y⟩ := q
    rcases s with ⟨e1, e2⟩ | ⟨a, b, e1, e2, e3⟩
    · dsimp only at e1 e2 ⊢
      subst e1
      cases x <;> first | rfl | cases e2
    · dsimp only at e1 e2 ⊢
      subst e1 e2
      exact congrArg Fd.ln (fo a b e3).symm
  have hs : ∀ a ∈ h.met, ∃ b, (a, b) ∈ P := met_least (S := fun a => ∃ b, (a, b) ∈ P) (fun a ha => by
    obtain ⟨y, hy⟩ := mem_zip_left n.len (mem_addrs.mp ha)
    rcases st _ (n.rs _ hy) with ⟨_, z⟩ | ⟨a', b, e1, e2, e3⟩
    · cases z
    · cases e1; exact ⟨b, e3⟩) (fun a ⟨b, hab⟩ c hc => by
    obtain ⟨fs, gs, e1, e2, e3, e4⟩ := n.cs _ hab
    dsimp only at e1 e2
    rw [e1] at hc
    obtain ⟨y, hy⟩ := mem_zip_left e3 (mem_addrs.mp hc)
    rcases st _ (e4 _ hy) with ⟨_, z⟩ | ⟨a', b', q1, q2, q3⟩
    · cases z
    · cases q1; exact ⟨b', q3⟩)
  refine ⟨fun a ha b hb e => ?_, zip_map_of n.len fun q hq => mpo q (st q (n.rs q hq)), fun a ha => ?_⟩
  · obtain ⟨c, hc⟩ := hs a ha
    obtain ⟨d, hd⟩ := hs b hb
    rw [fo a c hc, fo b d hd] at e
    subst e
    have h1 := look2_of bs.n2 hc
    rw [look2_of bs.n2 hd] at h1
    exact (Option.some.inj h1).symm
  · obtain ⟨b, hb⟩ := hs a ha
    obtain ⟨fs, gs, e1, e2, e3, e4⟩ := n.cs _ hb
    dsimp only at e1 e2
    rw [fo a b hb, e1, e2]
    exact congrArg some (zip_map_of e3 fun q hq => mpo q (st q (e4 q hq)))
theorem same_ne {h g : Hx} (okh : Ok h) (okg : Ok g) (ne : ¬ (copyRs h = copyRs g ∧ copyCs h = copyCs g)) : K36.m_same_heap [h.d, g.d] = some (0, .bl false) := by
  refine same_core okh okg false (Near h g) (fun _ => rfl) (fun e => ⟨e, fun q hq => .inl hq, fun p hp => by cases hp⟩) (fun w P x y j hx => ⟨fun e => ?_, fun _ => rfl⟩) (fun w P a b bs j hin => ⟨fun e => ?_, fun _ => rfl⟩) (fun w P a b fs gs j h1 h2 hf hg => ⟨fun e => ?_, fun _ => rfl⟩) (fun P bs j => ?_)
  · refine j.step (fun q hq => ?_) (fun p hp => hp) (fun p hp => .inl hp)
    rcases List.mem_append.mp hq with z | z
    · exact .inl z
    · simp at z
      rw [z]
      subst e
      exact .inr (.inl ⟨rfl, hx.elim id id⟩)
  · refine j.step (fun q hq => ?_) (fun p hp => hp) (fun p hp => .inl hp)
    rcases List.mem_append.mp hq with z | z
    · exact .inl z
    · simp at z
      rw [z]
      exact .inr (.inr ⟨a, b, rfl, rfl, look1_mem e.1⟩)
  · refine j.step (fun q hq => ?_) (fun p hp => List.mem_append_left _ hp) (fun p hp => ?_)
    · rcases List.mem_append.mp hq with z | z
      · exact .inl (List.mem_append_left _ z)
      · simp at z
        rw [z]
        exact .inr (.inr ⟨a, b, rfl, rfl, by simp⟩)
    · rcases List.mem_append.mp hp with z | z
      · exact .inl z
      · simp at z
        rw [z]
        exact .inr ⟨fs, gs, hf, hg, e, fun q hq => .inl (List.mem_append_right _ hq)⟩
  · exact absurd ((near_iso bs j).copy okh okg) fun z => ne ⟨z.1.symm, z.2.symm⟩
end HP
set_option Elab.async false
set_option linter.all false
set_option maxRecDepth 100000
/-! J4: turned -/
namespace HP
open PySem L2 Pv
def sh (n b a : Nat) : Nat := if b ≤ a then a - b else a + n - b
def un (n b i : Nat) : Nat := if i + b < n then i + b else i + b - n
theorem sh_lt {n b a : Nat} (ha : a < n) (hb : b < n) : sh n b a < n := by unfold sh; split <;> omega
theorem un_lt {n b i : Nat} (hi : i < n) (hb : b < n) : un n b i < n := by unfold un; split <;> omega
theorem un_sh {n b a : Nat} (ha : a < n) (hb : b < n) : un n b (sh n b a) = a := by unfold un sh; split <;> split <;> omega
theorem sh_mod {n b a : Nat} (ha : a < n) (hb : b < n) : ((a : Int) - (b : Int)) % (n : Int) = ((sh n b a : Nat) : Int) := by
  unfold sh
  by_cases h : b ≤ a
  · rw [if_pos h, Int.emod_eq_of_lt (by omega) (by omega)]; omega
  · rw [if_neg h, ← Int.add_emod_right, Int.emod_eq_of_lt (by omega) (by omega)]; omega
theorem rot_tab {n b : Nat} (hb : b < n) (F : Nat → D) : ((List.range n).map F).drop b ++ ((List.range n).map F).take b = (List.range n).map fun i => F (un n b i) := by
  refine List.ext_getElem (by simp; omega) fun i h1 h2 => ?_
  have hi : i < n := by simpa using h2
  by_cases q : i < n - b
  · rw [List.getElem_append_left (by simpa using q)]
    have : un n b i = b + i := by unfold un; rw [if_pos (by omega)]; omega
    simp [this]
  · rw [List.getElem_append_right (by simp; omega)]
    have : un n b i = i - (n - b) := by unfold un; rw [if_neg (by omega)]; omega
    simp [this]
def turn (h : Hx) (b : Nat) : Hx := ⟨h.rs.map (mp (sh h.n b)), h.n, fun i => if i < h.n then (h.c (un h.n b i)).map fun fs => fs.map (mp (sh h.n b)) else none⟩
theorem mp_ln {f : Nat → Nat} {x : Fd} {b : Nat} (h : mp f x = .ln b) : ∃ a, x = .ln a ∧ b = f a := by
  cases x with
  | no => cases h
  | nu i => cases h
  | ln a => cases h; exact ⟨a, rfl, rfl⟩
theorem turn_ok {h : Hx} (ok : Ok h) {b : Nat} (hb : b < h.n) : Ok (turn h b) := by
  have lv : ∀ a, live h a → live (turn h b) (sh h.n b a) := fun a ⟨h1, fs, h2⟩ => ⟨sh_lt h1 hb, fs.map (mp (sh h.n b)), by
    show (if sh h.n b a < h.n then (h.c (un h.n b (sh h.n b a))).map _ else none) = _
    rw [if_pos (sh_lt h1 hb), un_sh h1 hb, h2]; rfl⟩
  have cc : ∀ i fs, (turn h b).c i = some fs → ∃ gs, i < h.n ∧ h.c (un h.n b i) = some gs ∧ fs = gs.map (mp (sh h.n b)) := fun i fs e => by
    have e' : (if i < h.n then (h.c (un h.n b i)).map (fun fs => fs.map (mp (sh h.n b))) else none) = some fs := e
    split at e'
    · obtain ⟨gs, hg, rfl⟩ := Option.map_eq_some_iff.mp e'
      exact ⟨gs, ‹_›, hg, rfl⟩
    · cases e'
  refine ⟨fun c hc => ?_, fun i hi => ?_, fun i fs hi e c hc => ?_, fun i hi fs e => ?_, ?_, ok.nc, fun i hi => ?_⟩
  · obtain ⟨f, hf, e⟩ := List.mem_map.mp (show Fd.ln c ∈ h.rs.map (mp (sh h.n b)) from hc)
    obtain ⟨a, rfl, rfl⟩ := mp_ln e
    exact lv a (ok.rl a hf)
  · obtain ⟨f, hf, e⟩ := List.mem_map.mp (show Fd.nu i ∈ h.rs.map (mp (sh h.n b)) from hi)
    cases f with
    | no => cases e
    | ln a => cases e
    | nu j => exact ok.rn j hf
  · obtain ⟨gs, h1, hg, rfl⟩ := cc i fs e
    obtain ⟨f, hf, e⟩ := List.mem_map.mp hc
    obtain ⟨a, rfl, rfl⟩ := mp_ln e
    exact lv a (ok.cl _ gs (un_lt h1 hb) hg a hf)
  · obtain ⟨gs, h1, hg, rfl⟩ := cc i fs e
    have := ok.sz _ (un_lt h1 hb) gs hg
    simpa using this
  · show (h.rs.map (mp (sh h.n b))).length ≤ 4
    simpa using ok.nr
  · show (if i < h.n then _ else none) = none
    have : h.n ≤ i := hi
    rw [if_neg (by omega)]
theorem upd_set (h : Hx) (p : Nat) (fs : List Fd) : ((List.range h.n).map fun i => cd (h.c i)).set p (D.tup (fs.map Fd.d)) = (List.range h.n).map fun i => cd ((upd h p fs).c i) := by
  refine List.ext_getElem (by simp) fun i h1 h2 => ?_
  rw [List.getElem_set]
  by_cases q : p = i
  · subst q; simp [upd]
  · rw [if_neg q]
    have : ¬ i = p := fun e => q e.symm
    simp [upd, this]
theorem turned_run (r : Nat → Nat) {h : Hx} (ok : Ok h) (hn0 : 0 < h.n) : ∃ g, Ok g ∧ K35.m_law_turned [rowD 74 r, h.d] = some (0, g.d) := by
  have h4 := ok.nr
  have h12 := ok.nc
  have h66 := ix_rowL (m := 74) (k := 0) (l := 0) (r := r) 66 (by omega) (by omega)
  have h67 := ix_rowL (m := 74) (k := 0) (l := 0) (r := r) 67 (by omega) (by omega)
  have h68 := ix_rowL (m := 74) (k := 0) (l := 0) (r := r) 68 (by omega) (by omega)
  have h69 := ix_rowL (m := 74) (k := 0) (l := 0) (r := r) 69 (by omega) (by omega)
  have h70 := ix_rowL (m := 74) (k := 0) (l := 0) (r := r) 70 (by omega) (by omega)
  have eqi : K35.m_law_is_int = K36.m_law_is_int := rfl
  have eqf : K35.m_law_field = K36.m_law_field := rfl
  have hn1 : h.n ≤ 1000000 := by omega
  have hn2 : h.n ≤ 1000000000 := by omega
  have hn0' : (0 : Int) < (h.n : Int) := by omega
  have eb : (r 66 : Int) % (h.n : Int) = ((r 66 % h.n : Nat) : Int) := by simp
  have hb : r 66 % h.n < h.n := Nat.mod_lt _ hn0
  generalize r 66 % h.n = b at eb hb
  have hd : ∀ g : Hx, D.tup [D.tup (g.rs.map Fd.d), g.cds] = g.d := fun g => rfl
  have okT : Ok (turn h b) := turn_ok ok hb
  have main : ∃ w, K35.m_law_turned [rowD 74 r, h.d] = some w ∧ ∃ g, Ok g ∧ w = (0, g.d) := by
    refine def_ex _ rfl (fun w ⟨g, _, e⟩ => by rw [e]; show cleanD 0 g.d = true; rw [clean0]; exact d_box g) fun Q hQ => ?_
    unfold K35.b_law_turned
    have hl1 : (h.n - b) + min b h.n ≤ 1000000 := by omega
    simp -implicitDefEqProofs [h66, eb, hn0, hn0', drop_cds, take_cds, hn2, hl1]
    have er := rot_tab hb (fun i => cd (h.c i))
    rw [er]
    obtain ⟨A, hAd⟩ : ∃ A : List D, A = (List.range h.n).map fun i => cd ((turn h b).c i) := ⟨_, rfl⟩
    obtain ⟨B, hBd⟩ : ∃ B : List D, B = (List.range h.n).map fun i => cd (h.c (un h.n b i)) := ⟨_, rfl⟩
    have hAB : A.length = B.length := by simp [hAd, hBd]
    have hBn : B.length = h.n := by simp [hBd]
    have hAi : ∀ i (hi : i < h.n), A[i]'(by omega) = cd ((turn h b).c i) := fun i hi => by simp [hAd]
    have hBi : ∀ i (hi : i < h.n), B[i]'(by omega) = cd (h.c (un h.n b i)) := fun i hi => by simp [hBd]
    have hBe : ((List.range h.n).map fun i => cd (h.c (un h.n b i))) = mix A B 0 := by rw [mix_zero, hBd]
    have tc : ∀ i, i < h.n → (turn h b).c i = (h.c (un h.n b i)).map fun fs => fs.map (mp (sh h.n b)) := fun i hi => if_pos hi
    rw [hBe]
    refine wp_range h.n (fun m ρ => ∃ x y z, lvl0 (some x) = true ∧ ρ = [some (0, rowD 74 r), some (0, h.d), some (0, .int (h.n : Int)), some (0, .int (b : Int)), some (1, .lst (mix A B m)), x, y, z, none, none, none, none]) (by simp) ⟨none, none, none, rfl, by simp⟩ ?_ ?_
    · rintro m ρ hm ⟨x, y, z, hx, rfl⟩
      have hum := un_lt hm hb
      have hgm := mix_get hAB (q := m) (by omega)
      have hlm := mix_len hAB (q := m) (by omega)
      rw [hBi m hm] at hgm
      cases hc : h.c (un h.n b m) with
      | none =>
        rw [mix_same hAB (by omega) (by rw [hAi m hm, hBi m hm, tc m hm, hc]; rfl)]
        rw [hc] at hgm
        simp -implicitDefEqProofs [hm, hgm]
      | some fs =>
        have hl := (ok.sz _ hum fs hc).2
        have hl2 : fs.length ≤ 1000000000 := by omega
        rw [hc] at hgm
        simp -implicitDefEqProofs [hm, hgm, hl2]
        obtain ⟨A', hAd'⟩ : ∃ A' : List D, A' = (fs.map (mp (sh h.n b))).map Fd.d := ⟨_, rfl⟩
        obtain ⟨B', hBd'⟩ : ∃ B' : List D, B' = fs.map Fd.d := ⟨_, rfl⟩
        have hAB' : A'.length = B'.length := by simp [hAd', hBd']
        have hBn' : B'.length = fs.length := by simp [hBd']
        have hAi' : ∀ i (hi : i < fs.length), A'[i]'(by omega) = (mp (sh h.n b) fs[i]).d := fun i hi => by simp [hAd']
        have hBi' : ∀ i (hi : i < fs.length), B'[i]'(by omega) = fs[i].d := fun i hi => by simp [hBd']
        have hBe' : fs.map Fd.d = mix A' B' 0 := by rw [mix_zero, hBd']
        rw [hBe']
        refine wp_range fs.length (fun q ρ => ∃ z, ρ = [some (0, rowD 74 r), some (0, h.d), some (0, .int (h.n : Int)), some (0, .int (b : Int)), some (1, .lst (mix A B m)), some (0, .int (m : Int)), some (1, .lst (mix A' B' q)), z, none, none, none, none]) (by simp) ⟨z, by simp⟩ ?_ ?_
        · rintro q ρ hq ⟨z, rfl⟩
          have hg := mix_get hAB' (q := q) (by omega)
          have hlen := mix_len hAB' (q := q) (by omega)
          have hsm := mix_same hAB' (q := q) (by omega)
          have hst := mix_set hAB' (q := q) (by omega)
          rw [hBi' q hq] at hg hsm
          rw [hAi' q hq] at hst hsm
          cases hf : fs[q] with
          | no =>
            rw [hf] at hg hsm
            rw [hsm rfl]
            simp -implicitDefEqProofs [hg, eqi]
          | nu j =>
            rw [hf] at hg hsm
            rw [hsm rfl]
            simp -implicitDefEqProofs [hg, eqi]
          | ln a =>
            rw [hf] at hg hst
            have hla := ok.cl _ fs hum hc a (by rw [← hf]; exact List.getElem_mem hq)
            have hmod := sh_mod hla.1 hb
            simp -implicitDefEqProofs [hg, eqi]
            refine wp_set (j := 0) (k := 0) (d := .int ((sh h.n b a : Nat) : Int)) (m := (q : Int)) (ds := mix A' B' q) (by simp -implicitDefEqProofs [hg, hmod, hn0, hn0']) rfl rfl (setAt_n (by omega)) ?_
            rw [show D.int ((sh h.n b a : Nat) : Int) = (mp (sh h.n b) (.ln a)).d from rfl, hst]
            simp
        · rintro ρ ⟨z, rfl⟩
          rw [← hBn', mix_all hAB', hAd']
          have hst := mix_set hAB (q := m) (by omega)
          rw [hAi m hm, tc m hm, hc] at hst
          refine wp_set (j := 0) (k := 0) (d := .tup ((fs.map (mp (sh h.n b))).map Fd.d)) (m := (m : Int)) (ds := mix A B m) (by simp -implicitDefEqProofs) rfl rfl (setAt_n (by omega)) ?_
          rw [show D.tup ((fs.map (mp (sh h.n b))).map Fd.d) = cd (Option.map (fun fs => fs.map (mp (sh h.n b))) (some fs)) from rfl, hst]
          simp
    · rintro ρ ⟨x, y, z, hx, rfl⟩
      rw [← hBn, mix_all hAB, hAd, hBn]
      have tr : (turn h b).rs = h.rs.map (mp (sh h.n b)) := rfl
      have tn : h.n = (turn h b).n := rfl
      have nt : (turn h b).n = h.n := rfl
      have h3i : ∀ {j : Nat}, Fd.nu j ∉ h.rs := fun {j} => ok.rn j
      rw [show h.d = D.tup [D.tup (h.rs.map Fd.d), h.cds] from rfl]
      simp -implicitDefEqProofs
      refine wp_for (inj := Fd.d) h.rs (fun pre ρ => ∃ w, lvl0 (some x) = true ∧ ρ = [some (0, rowD 74 r), some (0, D.tup [D.tup (h.rs.map Fd.d), h.cds]), some (0, .int (h.n : Int)), some (0, .int (b : Int)), some (1, .lst ((List.range h.n).map fun i => cd ((turn h b).c i))), x, y, z, some (1, .lst ((pre.map (mp (sh h.n b))).map Fd.d)), w, none, none]) rfl ⟨none, hx, by simp⟩ ?_ ?_
      · rintro pre f post ρ hp ⟨w, hx, rfl⟩
        have hpl : pre.length ≤ h.rs.length := by rw [hp]; simp
        have hpl' : pre.length < 1000000 := by omega
        cases f with
        | no => simp -implicitDefEqProofs [Pv.big, hpl', hx, mp]
        | nu i => exact absurd (by rw [hp]; simp) (ok.rn i)
        | ln a =>
          have hla := ok.rl a (by rw [hp]; simp)
          have hmod := sh_mod hla.1 hb
          simp -implicitDefEqProofs [Pv.big, hpl', hmod, hn0, hn0', hx, mp]
      · rintro ρ ⟨w, hx, rfl⟩
        rw [← tr]
        generalize turn h b = g0 at *
        rw [tn]
        rw [tn] at hn0 hn1 hn2
        have e4 : ∀ (v0 v1 v2 v3 v5 v6 v7 v8 v9 v10 v11 : Option W), compL (.nm 5) (bVal (pOp2 gNotN (pOp2 gIx (pBv 4) (pBv 5)) (pC .non))) (pVar 5) 0 [v0, v1, v2, v3, some (1, .lst ((List.range g0.n).map fun i => cd (g0.c i))), v5, v6, v7, v8, v9, v10, v11] ((List.range g0.n).map IN) = some ((someL g0).map IN) := by
          intro v0 v1 v2 v3 v5 v6 v7 v8 v9 v10 v11
          refine comp_fm (fun i => (g0.c i).isSome) IN fun i hi => ?_
          have hi' := List.mem_range.mp hi
          cases hc : g0.c i with
          | none => simp -implicitDefEqProofs [hi', hc]
          | some fs => simp -implicitDefEqProofs [hi', hc]
        have e3 : ∀ (v0 v1 v2 v3 v6 v7 v8 v9 v10 v11 : Option W), compL (.nm 5) (bVal (pOp2 gNotN (pOp2 gIx (pBv 4) (pBv 5)) (pC .non))) (pVar 5) 0 [v0, v1, v2, v3, some (1, .lst ((List.range g0.n).map fun i => cd (g0.c i))), none, v6, v7, v8, v9, v10, v11] ((List.range g0.n).map IN) = some ((someL g0).map IN) := fun v0 v1 v2 v3 => e4 v0 v1 v2 v3 none
        clear e3
        have fin : ∀ (g : Hx), Ok g → ∀ ρ, Q (.rt (0, D.tup [D.tup (g.rs.map Fd.d), D.tup ((List.range g.n).map fun i => cd (g.c i))])) ρ := fun g okg ρ => by
          have := hQ (0, g.d) ρ ⟨g, okg, rfl⟩
          rw [← hd, cds_d] at this
          exact this
        have f0 := fin g0 okT
        by_cases hc : r 67 % 2 = 0 ∧ 0 < (someL g0).length
        · obtain ⟨hc1, hL⟩ := hc
          have hc1' : (r 67 : Int) % 2 = 0 := by omega
          have hL' : (0 : Int) < ((someL g0).length : Int) := by omega
          have hq0 : r 68 % (someL g0).length < (someL g0).length := Nat.mod_lt _ hL
          have eq0 : (r 68 : Int) % ((someL g0).length : Int) = ((r 68 % (someL g0).length : Nat) : Int) := by simp
          generalize r 68 % (someL g0).length = q at hq0 eq0
          have hgq := List.getElem?_eq_getElem hq0
          have hpl := someL_mem.mp (List.getElem_mem hq0)
          generalize (someL g0)[q] = p at hgq hpl
          obtain ⟨hp, fs, hfs⟩ := hpl
          have hsz := okT.sz p hp fs hfs
          have hfl' : 0 < fs.length := by omega
          have hfl : (0 : Int) < (fs.length : Int) := by omega
          have ha : r 69 % fs.length < fs.length := Nat.mod_lt _ (by omega)
          have ea : (r 69 : Int) % (fs.length : Int) = ((r 69 % fs.length : Nat) : Int) := by simp
          generalize r 69 % fs.length = a at ha ea
          have f1 := fin (upd g0 p (fs.take a ++ [fieldF (someL g0) (r 70)] ++ fs.drop (a + 1))) (upd_ok okT hp (by simp; omega) fun c hc => by
            rcases List.mem_append.mp hc with z | z
            · rcases List.mem_append.mp z with z | z
              · exact okT.cl p fs hp hfs c (List.mem_of_mem_take z)
              · simp at z
                exact someL_mem.mp (field_ln z.symm)
            · exact okT.cl p fs hp hfs c (List.mem_of_mem_drop z))
          have hcl : p < ((List.range g0.n).map fun i => cd (g0.c i)).length := by simp; exact hp
          have ea1 : ((a : Int) + 1) = ((a + 1 : Nat) : Int) := by omega
          simp -implicitDefEqProofs [e4, h67, hc1', hL, hL', h68, eq0, hgq, -Int.natCast_emod, h69, hp, hfs, ea, hfl, hfl', hx, hn2, hn1]
          have hl5 : min a fs.length + 1 + (fs.length - (a + 1)) ≤ 1000000 := by omega
          have hl6 : min a fs.length + 1 ≤ 1000000 := by omega
          refine wp_set (j := 0) (k := 0) (d := .tup ((fs.take a ++ [fieldF (someL g0) (r 70)] ++ fs.drop (a + 1)).map Fd.d)) (m := (p : Int)) (ds := (List.range g0.n).map fun i => cd (g0.c i)) (by simp -implicitDefEqProofs [hp, hfs, eqf, field_run, h70, cut_take, ea1, cut_drop, hl5, hl6, -Int.natCast_add]) rfl rfl (setAt_n hcl) ?_
          rw [upd_set]
          generalize fs.take a ++ [fieldF (someL g0) (r 70)] ++ fs.drop (a + 1) = F' at f1 ⊢
          simp -implicitDefEqProofs
          exact f1 _
        · have hc' : ¬ ((r 67 : Int) % 2 = 0 ∧ 0 < (someL g0).length) := fun ⟨a, b⟩ => hc ⟨by omega, b⟩
          by_cases hL : 0 < (someL g0).length
          · have hL' : (0 : Int) < ((someL g0).length : Int) := by omega
            have h1 : ¬ (r 67 : Int) % 2 = 0 := fun q => hc' ⟨q, hL⟩
            simp -implicitDefEqProofs [e4, h67, h1, hL, hL', hx, hn2, hn1]
            exact f0 _
          · have hL' : ¬ (0 : Int) < ((someL g0).length : Int) := by omega
            by_cases h1 : (r 67 : Int) % 2 = 0
            · simp -implicitDefEqProofs [e4, h67, h1, hL, hL', hx, hn2, hn1]
              exact f0 _
            · simp -implicitDefEqProofs [e4, h67, h1, hL, hL', hx, hn2, hn1]
              exact f0 _
  obtain ⟨w, e1, g, okg, e2⟩ := main
  exact ⟨g, okg, by rw [e1, e2]⟩
end HP
set_option Elab.async false
set_option linter.all false
set_option maxRecDepth 100000
/-! J5: swept -/
namespace HP
open PySem L2 Pv
theorem bare_run {g : Hx} (ok : Ok g) (hl : ∀ i, i < g.n → ∃ fs, g.c i = some fs) : K35.m_law_bare [g.d] = some (0, g.d) := by
  refine def_of0 rfl (d_box _) fun Q hQ => ?_
  unfold K35.b_law_bare
  have h12 := ok.nc
  have hn2 : g.n ≤ 1000000000 := by omega
  have hd : D.tup [D.tup (g.rs.map Fd.d), g.cds] = g.d := rfl
  simp [hn2]
  refine wp_range g.n (fun m ρ => ∃ x, ρ = [some (0, g.d), some (0, g.cds), x]) (by simp) ⟨none, rfl⟩ ?_ ?_
  · rintro m ρ hm ⟨x, rfl⟩
    have h0 : 0 < g.n := by omega
    have h0' : (0 : Int) < (g.n : Int) := by omega
    obtain ⟨fs, hfs⟩ := hl (g.n - 1) (by omega)
    have hi := ix_cds (h := g) (k := 0) (l := 0) (a := g.n - 1) (by omega)
    rw [show ((g.n - 1 : Nat) : Int) = (g.n : Int) - 1 by omega, hfs] at hi
    simp [h0, h0', hi]
  · rintro ρ ⟨x, rfl⟩
    simp [hd]
    exact hQ _
theorem move_live {h : Hx} {L : List Nat} (c : Cl h L) : ∀ i, i < (moveH h L).n → ∃ fs, (moveH h L).c i = some fs := fun i hi => by
  have hi' : i < L.length := hi
  obtain ⟨_, fs, hfs⟩ := c.lv _ (List.getElem_mem hi')
  refine ⟨fs.map (ren L), ?_⟩
  show (L[i]?).bind _ = _
  rw [List.getElem?_eq_getElem hi']
  simp [hfs]
theorem slid_run {h : Hx} (ok : Ok h) : K35.m_slid_heap [h.d] = some (0, (moveH h (sortN h.met)).d) := by
  refine def_of0 rfl (d_box _) fun Q hQ => ?_
  unfold K35.b_slid_heap
  have r1 : K35.m_reached_cells [h.d] = some (0, .tup ((sortN h.met).map IN)) := reached_run ok
  have r2 : K35.m_moved [h.d, .tup ((sortN h.met).map IN)] = some (0, (moveH h (sortN h.met)).d) := moved_any ok (sort_cl ok) (b := false) rfl (fun q => by cases q)
  simp [r1, r2]
  exact hQ _
theorem shape_run {h : Hx} (ok : Ok h) : K35.m_shape_of [h.d] = some (0, copyD' h) := by
  refine def_of0 rfl (copy_box _) fun Q hQ => ?_
  unfold K35.b_shape_of
  have r1 : K35.m_copied_heap [h.d] = some (0, copyD' h) := copied_run ok
  simp [r1]
  exact hQ _
theorem Fd.inj {x y : Fd} (h : x.d = y.d) : x = y := by
  cases x with
  | no => cases y <;> first | rfl | cases h
  | ln a =>
    cases y with
    | no => cases h
    | ln b =>
      have := D.int.inj h
      have : a = b := by omega
      rw [this]
    | nu j => cases h
  | nu i =>
    cases y with
    | no => cases h
    | ln b => cases h
    | nu j => cases h; rfl
theorem map_inj' {α β : Type} {f : α → β} (hf : ∀ x y, f x = f y → x = y) : ∀ {xs ys : List α}, xs.map f = ys.map f → xs = ys
  | [], [], _ => rfl
  | [], _ :: _, h => by cases h
  | _ :: _, [], h => by cases h
  | x :: xs, y :: ys, h => by
    rw [List.map_cons, List.map_cons] at h
    rw [hf _ _ (List.cons.inj h).1, map_inj' hf (List.cons.inj h).2]
theorem cd_inj {x y : Cell} (h : cd x = cd y) : x = y := by
  cases x with
  | none => cases y <;> first | rfl | cases h
  | some fs =>
    cases y with
    | none => cases h
    | some gs => rw [map_inj' (fun _ _ => Fd.inj) (D.tup.inj h)]
theorem fd_nobl (f : Fd) : noBl f.d = true := by cases f <;> rfl
theorem cd_nobl (c : Cell) : noBl (cd c) = true := by
  cases c with
  | none => rfl
  | some fs => exact noBls_all fun d hd => by obtain ⟨f, _, rfl⟩ := List.mem_map.mp hd; exact fd_nobl f
theorem copy_eq (h g : Hx) (k l : Nat) : ∃ b : Bool, (b = true ↔ copyRs h = copyRs g ∧ copyCs h = copyCs g) ∧ gEq (k, copyD' h) (l, copyD' g) = some (0, .bl b) := by
  have nb : ∀ h : Hx, noBls [.tup ((copyRs h).map Fd.d), .tup ((copyCs h).map cd)] = true := fun h => noBls_all fun d hd => by
    rcases List.mem_cons.mp hd with rfl | hd
    · exact noBls_all fun d hd => by obtain ⟨f, _, rfl⟩ := List.mem_map.mp hd; exact fd_nobl f
    · rcases List.mem_cons.mp hd with rfl | hd
      · exact noBls_all fun d hd => by obtain ⟨f, _, rfl⟩ := List.mem_map.mp hd; exact cd_nobl f
      · cases hd
  obtain ⟨b, h1, h2, _⟩ := eq_dec (k := k) (l := l) (copy_lay h) (copy_lay g) (nb h) (nb g)
  refine ⟨b, h1.trans ⟨fun e => ?_, fun ⟨e1, e2⟩ => by rw [e1, e2]⟩, h2⟩
  have e1 := D.tup.inj (List.cons.inj e).1
  have e2 := D.tup.inj (List.cons.inj (List.cons.inj e).2).1
  exact ⟨map_inj' (fun _ _ => Fd.inj) e1, map_inj' (fun _ _ => cd_inj) e2⟩
theorem swept_law (r : Nat → Nat) {h : Hx} (ok : Ok h) (hn0 : 0 < h.n) : K35.m_law_swept [rowD 74 r, h.d] = some (0, .bl true) := by
  obtain ⟨g, okg, rt⟩ := turned_run r ok hn0
  have cm := met_cl ok
  have cs := sort_cl ok
  have okm := moveH_ok ok cm
  have oks := moveH_ok ok cs
  have okk := keep_ok ok
  have h12 := ok.nc
  have hn1 : h.n ≤ 1000000 := by omega
  have hn2 : h.n ≤ 1000000000 := by omega
  have hml := met_len ok
  have hsl := sortN_len h.met
  have m1 : K35.m_law_met [h.cds, .tup (h.rs.map Fd.d)] = some (1, .lst (h.met.map IN)) := law_met_run ok
  have m2 : K35.m_law_met [g.cds, .tup (g.rs.map Fd.d)] = some (1, .lst (g.met.map IN)) := law_met_run okg
  have r1 := law_moved_run ok cm
  have r2 := law_moved_run ok cs
  have r3 := law_moved_run okg (met_cl okg)
  have r4 : K35.m_reached_cells [h.d] = some (0, .tup ((sortN h.met).map IN)) := reached_run ok
  have r5 : K35.m_marked_swept [h.d] = some (0, (keep h).d) := swept_run ok
  have r6 : K35.m_copied_heap [h.d] = some (0, (moveH h h.met).d) := by rw [← copy_move]; exact copied_run ok
  have r7 : K35.m_shape_of [h.d] = some (0, (moveH h h.met).d) := by rw [← copy_move]; exact shape_run ok
  have r8 := slid_run ok
  have r9 := bare_run oks (move_live cs)
  have s1 : K35.m_same_heap [h.d, h.d] = some (0, .bl true) := same_eq ok ok rfl rfl
  have i1 := Iso.copy ok okm (iso_move ok cm)
  have i2 := Iso.copy ok oks (iso_move ok cs)
  have i3 := Iso.copy ok okk (iso_keep ok)
  have s2 : K35.m_same_heap [h.d, (moveH h h.met).d] = some (0, .bl true) := same_eq ok okm i1.1.symm i1.2.symm
  have s3 : K35.m_same_heap [h.d, (moveH h (sortN h.met)).d] = some (0, .bl true) := same_eq ok oks i2.1.symm i2.2.symm
  have s4 : K35.m_same_heap [h.d, (keep h).d] = some (0, .bl true) := same_eq ok okk i3.1.symm i3.2.symm
  obtain ⟨b, hb, e1⟩ := copy_eq g h 0 0
  rw [copy_move, copy_move] at e1
  have t1 : K35.m_same_heap [h.d, g.d] = some (0, .bl b) := by
    cases b with
    | true => have := hb.mp rfl; exact same_eq ok okg this.1.symm this.2.symm
    | false => exact same_ne ok okg fun q => by have := hb.mpr ⟨q.1.symm, q.2.symm⟩; cases this
  have t2 : K35.m_same_heap [g.d, (moveH h h.met).d] = some (0, .bl b) := by
    cases b with
    | true => have := hb.mp rfl; exact same_eq okg okm (this.1.trans i1.1.symm) (this.2.trans i1.2.symm)
    | false => exact same_ne okg okm fun q => by have := hb.mpr ⟨q.1.trans i1.1, q.2.trans i1.2⟩; cases this
  have eql : K35.m_law_like = K36.m_law_like := rfl
  have l1 := like (like_IN 4 (sortN h.met) (by omega))
  have l2 := like (like_hd okk)
  have l3 := like (like_hd okm)
  have l4 := like (like_hd oks)
  have l5 : K36.m_law_like [.bl true, .bl true] = some (0, .bl true) := like rfl
  have l6 : K36.m_law_like [.bl b, .bl b] = some (0, .bl true) := by cases b <;> exact like rfl
  have hs := sorted_IN (k := 1) (xs := h.met) (by omega) (by omega)
  have hk : D.tup [D.tup (h.rs.map Fd.d), D.tup ((List.range h.n).map fun i => cd ((keep h).c i))] = (keep h).d := rfl
  refine def_of0 rfl rfl fun Q hQ => ?_
  unfold K35.b_law_swept
  simp [m1, r1, hs, hn1, hn2]
  rw [comp_map fun i => cd ((keep h).c i)]
  · simp [r4, r5, r6, r7, r8, r9, eql, l1, l2, l3, l4, l5, r2, s1, s2, s3, s4, hk, rt, m2, r3, e1, t1, t2, l6]
    have ga : gAll (1, .lst [.bl true, .bl true, .bl true, .bl true]) = some (0, .bl true) := rfl
    rw [show [h.d, (moveH h h.met).d, (moveH h (sortN h.met)).d, (keep h).d] = [h.d, (moveH h h.met).d, (moveH h (sortN h.met)).d, (keep h).d].map id from rfl, comp_map (fun _ => D.bl true)]
    · simp [ga, r4, r5, r6, r7, r8, r9, eql, l1, l2, l3, l4, l5, r2, s1, s2, s3, s4, hk, rt, m2, r3, e1, t1, t2, l6]
      exact hQ _
    · intro a ha
      simp at ha
      rcases ha with rfl | rfl | rfl | rfl <;> simp [s1, s2, s3, s4, l5]
  · intro i hi
    have hi' := List.mem_range.mp hi
    show elemR _ _ _ _ _ _ = some (some (cd (if i ∈ h.met then h.c i else none)))
    by_cases q : i ∈ h.met
    · simp [ix_cds hi', q]
    · simp [ix_cds hi', q]
end HP
set_option Elab.async false
set_option linter.all false
set_option maxRecDepth 100000
/-! J6: is_heap tells heaps from all else -/
namespace HP
open PySem L2 Pv
theorem all_bools {α : Type} (f : α → Bool) (xs : List α) : gAll (1, .lst (xs.map fun a => D.bl (f a))) = some (0, .bl (xs.all f)) := by
  unfold gAll
  rw [ld_l, if_pos (by omega)]
  have : blsD (xs.map fun a => D.bl (f a)) = some (xs.map f) := by
    induction xs with
    | nil => rfl
    | cons a xs ih => show (blsD _).map _ = _; rw [ih]; rfl
  show (blsD _).map _ = _
  rw [this]
  simp
section
variable {X : List D} {i : Nat} {x C : D}
theorem xlink_no : K36.m_is_link [C, .non] = some (0, .bl true) := by
  refine def_of0 rfl rfl fun Q hQ => ?_
  unfold K36.b_is_link
  simp -implicitDefEqProofs
  exact hQ _
theorem xlink_in (h : X[i]? = some x) : K36.m_is_link [.tup X, .int (i : Int)] = some (0, .bl (!isNon x)) := by
  have hi : i < X.length := by
    rcases Nat.lt_or_ge i X.length with q | q
    · exact q
    · rw [List.getElem?_eq_none q] at h; cases h
  have e : X[i]'hi = x := by rw [List.getElem?_eq_getElem hi] at h; exact Option.some.inj h
  refine def_of0 rfl rfl fun Q hQ => ?_
  unfold K36.b_is_link
  simp -implicitDefEqProofs [num_i, hi, e]
  exact hQ _
theorem xlink_out (h : X.length ≤ i) : K36.m_is_link [.tup X, .int (i : Int)] = some (0, .bl false) := by
  refine def_of0 rfl rfl fun Q hQ => ?_
  unfold K36.b_is_link
  have : ¬ i < X.length := by omega
  simp -implicitDefEqProofs [num_i, this]
  exact hQ _
theorem xlink_neg : K36.m_is_link [.tup X, .int (-1)] = some (0, .bl false) := by
  refine def_of0 rfl rfl fun Q hQ => ?_
  unfold K36.b_is_link
  simp -implicitDefEqProofs [num_i]
  exact hQ _
theorem num_bl (b : Bool) : K36.m_is_number [.bl b] = some (0, .bl false) := rfl
theorem num_str (s : Str) : K36.m_is_number [.str s] = some (0, .bl false) := rfl
theorem num_tup (s : List D) : K36.m_is_number [.tup s] = some (0, .bl false) := rfl
theorem xlink_bl (b : Bool) : K36.m_is_link [.tup X, .bl b] = some (0, .bl false) := by
  refine def_of0 rfl rfl fun Q hQ => ?_
  unfold K36.b_is_link
  simp -implicitDefEqProofs [num_bl]
  exact hQ _
theorem xlink_str (b : Str) : K36.m_is_link [.tup X, .str b] = some (0, .bl false) := by
  refine def_of0 rfl rfl fun Q hQ => ?_
  unfold K36.b_is_link
  simp -implicitDefEqProofs [num_str]
  exact hQ _
theorem xlink_tup (b : List D) : K36.m_is_link [.tup X, .tup b] = some (0, .bl false) := by
  refine def_of0 rfl rfl fun Q hQ => ?_
  unfold K36.b_is_link
  simp -implicitDefEqProofs [num_tup]
  exact hQ _
/-- the cells begin with those of h -/
def Bx (h : Hx) (X : List D) : Prop := ∀ i, i < h.n → X[i]? = some (cd (h.c i))
theorem bx_app {h : Hx} (ys : List D) : Bx h (((List.range h.n).map fun i => cd (h.c i)) ++ ys) := fun i hi => by
  rw [List.getElem?_append_left (by simpa using hi)]
  simp [hi]
theorem xlink_ln {h : Hx} (b : Bx h X) {a : Nat} (l : live h a) : K36.m_is_link [.tup X, .int (a : Int)] = some (0, .bl true) := by
  obtain ⟨h1, fs, h2⟩ := l
  rw [xlink_in (b a h1), h2]; rfl
theorem xfield {h : Hx} (b : Bx h X) {f : Fd} (hl : ∀ a, f = .ln a → live h a) : K36.m_is_field [.tup X, f.d] = some (0, .bl true) := by
  refine def_of0 rfl rfl fun Q hQ => ?_
  unfold K36.b_is_field
  cases f with
  | no => simp -implicitDefEqProofs [xlink_no]; exact hQ _
  | ln a => simp -implicitDefEqProofs [xlink_ln b (hl a rfl)]; exact hQ _
  | nu i => simp -implicitDefEqProofs [num_i]; exact hQ _
theorem xcell_of {x : List D} (p : D → Bool) (hp : ∀ d ∈ x, K36.m_is_field [C, d] = some (0, .bl (p d))) : K36.m_is_cell [C, .tup x] = some (0, .bl (decide (1 ≤ x.length ∧ x.length ≤ 4) && x.all p)) := by
  refine def_of0 rfl rfl fun Q hQ => ?_
  have hq := hQ
  unfold K36.b_is_cell
  by_cases h1 : 1 ≤ x.length
  · by_cases h2 : x.length ≤ 4
    · have h1' : (1 : Int) ≤ (x.length : Int) := by omega
      have h2' : (x.length : Int) ≤ 4 := by omega
      have h3 : x.length ≤ 1000000 := by omega
      simp [h1, h2] at hq
      simp -implicitDefEqProofs [h1', h2', h3]
      rw [show compL (.nm 2) bYes (pFn K36.m_is_field [] (aCons (pBv 0) (aCons (pBv 2) aNil))) 0 [some (0, C), some (0, D.tup x), none] x = some (x.map fun a => D.bl (p a)) from ?_]
      · simp -implicitDefEqProofs [all_bools]
        exact hq _
      · have := comp_map (inj := id) (X := fun a => D.bl (p a)) (xs := x) (t := .nm 2) (T := bYes) (A := pFn K36.m_is_field [] (aCons (pBv 0) (aCons (pBv 2) aNil))) (j := 0) (ρ := [some (0, C), some (0, D.tup x), none]) fun a ha => by simp -implicitDefEqProofs [hp a ha]
        rw [List.map_id] at this
        exact this
    · have h2' : ¬ (x.length : Int) ≤ 4 := by omega
      have h1' : (1 : Int) ≤ (x.length : Int) := by omega
      simp [h1, h2] at hq
      simp -implicitDefEqProofs [h1', h2']
      exact hq _
  · have h1' : ¬ (1 : Int) ≤ (x.length : Int) := by omega
    simp [h1] at hq
    simp -implicitDefEqProofs [h1']
    exact hq _
theorem xcell_cd {h : Hx} (b : Bx h X) {c : Cell} (hz : Sz c) (hl : ∀ fs, c = some fs → ∀ a, Fd.ln a ∈ fs → live h a) : K36.m_is_cell [.tup X, cd c] = some (0, .bl true) := by
  cases c with
  | none =>
    refine def_of0 rfl rfl fun Q hQ => ?_
    unfold K36.b_is_cell
    simp -implicitDefEqProofs
    exact hQ _
  | some fs =>
    have := xcell_of (C := .tup X) (x := fs.map Fd.d) (fun _ => true) fun d hd => by
      obtain ⟨f, hf, rfl⟩ := List.mem_map.mp hd
      exact xfield b fun a e => hl fs rfl a (e ▸ hf)
    rw [cd_s, this]
    have hs := hz fs rfl
    simp [hs]
theorem xcell_no : K36.m_is_cell [C, .non] = some (0, .bl true) := by
  refine def_of0 rfl rfl fun Q hQ => ?_
  unfold K36.b_is_cell
  simp -implicitDefEqProofs
  exact hQ _
theorem xcell_lst (x : List D) : K36.m_is_cell [C, .lst x] = some (0, .bl false) := by
  refine def_of0 rfl rfl fun Q hQ => ?_
  unfold K36.b_is_cell
  simp -implicitDefEqProofs
  exact hQ _
theorem xfield_str (s : Str) : K36.m_is_field [.tup X, .str s] = some (0, .bl false) := by
  refine def_of0 rfl rfl fun Q hQ => ?_
  unfold K36.b_is_field
  simp -implicitDefEqProofs [xlink_str]
  exact hQ _
theorem xfield_int (s : Int) (b : Bool) (h : K36.m_is_link [.tup X, .int s] = some (0, .bl b)) : K36.m_is_field [.tup X, .int s] = some (0, .bl b) := by
  refine def_of0 rfl rfl fun Q hQ => ?_
  unfold K36.b_is_field
  simp -implicitDefEqProofs [h]
  exact hQ _
theorem xfield_no : K36.m_is_field [.tup X, .non] = some (0, .bl true) := by
  refine def_of0 rfl rfl fun Q hQ => ?_
  unfold K36.b_is_field
  simp -implicitDefEqProofs [xlink_no]
  exact hQ _
theorem xfield_1 (d : D) : K36.m_is_field [.tup X, .tup [d]] = some (0, .bl false) := by
  refine def_of0 rfl rfl fun Q hQ => ?_
  unfold K36.b_is_field
  simp -implicitDefEqProofs
  exact hQ _
theorem xfield_bl (b : Bool) : K36.m_is_field [.tup X, .tup [.str "num", .bl b]] = some (0, .bl false) := by
  refine def_of0 rfl rfl fun Q hQ => ?_
  unfold K36.b_is_field
  simp -implicitDefEqProofs [num_bl]
  exact hQ _
theorem xfield_st (b : Str) : K36.m_is_field [.tup X, .tup [.str "num", .str b]] = some (0, .bl false) := by
  refine def_of0 rfl rfl fun Q hQ => ?_
  unfold K36.b_is_field
  simp -implicitDefEqProofs [num_str]
  exact hQ _
theorem xheap {R : List D} (p q : D → Bool) (hp : ∀ a ∈ R, K36.m_is_link [.tup X, a] = some (0, .bl (p a))) (hq : ∀ a ∈ X, K36.m_is_cell [.tup X, a] = some (0, .bl (q a))) : K36.m_is_heap [.tup [.tup R, .tup X]] = some (0, .bl (decide (R.length ≤ 4) && (decide (X.length ≤ 12) && (R.all p && X.all q)))) := by
  refine def_of0 rfl rfl fun Q hQ => ?_
  have hQ' := hQ
  unfold K36.b_is_heap
  by_cases h4 : R.length ≤ 4
  · by_cases h12 : X.length ≤ 12
    · have h4' : ¬ (4 : Int) < (R.length : Int) := by omega
      have h12' : ¬ (12 : Int) < (X.length : Int) := by omega
      have h5 : R.length ≤ 1000000 := by omega
      have h6 : X.length ≤ 1000000 := by omega
      simp [h4, h12] at hQ'
      have c1 : ∀ (v1 v2 : Option W), compL (.nm 3) bYes (pFn K36.m_is_link [] (aCons (pBv 2) (aCons (pBv 3) aNil))) 0 [some (0, D.tup [D.tup R, D.tup X]), some (0, D.tup R), some (0, D.tup X), v1, v2] R = some (R.map fun a => D.bl (p a)) := fun v1 v2 => by
        have := comp_map (inj := id) (X := fun a => D.bl (p a)) (xs := R) (t := .nm 3) (T := bYes) (A := pFn K36.m_is_link [] (aCons (pBv 2) (aCons (pBv 3) aNil))) (j := 0) (ρ := [some (0, D.tup [D.tup R, D.tup X]), some (0, D.tup R), some (0, D.tup X), v1, v2]) fun a ha => by simp -implicitDefEqProofs [hp a ha]
        rw [List.map_id] at this
        exact this
      have c2 : ∀ (v1 v2 : Option W), compL (.nm 4) bYes (pFn K36.m_is_cell [] (aCons (pBv 2) (aCons (pBv 4) aNil))) 0 [some (0, D.tup [D.tup R, D.tup X]), some (0, D.tup R), some (0, D.tup X), v1, v2] X = some (X.map fun a => D.bl (q a)) := fun v1 v2 => by
        have := comp_map (inj := id) (X := fun a => D.bl (q a)) (xs := X) (t := .nm 4) (T := bYes) (A := pFn K36.m_is_cell [] (aCons (pBv 2) (aCons (pBv 4) aNil))) (j := 0) (ρ := [some (0, D.tup [D.tup R, D.tup X]), some (0, D.tup R), some (0, D.tup X), v1, v2]) fun a ha => by simp -implicitDefEqProofs [hq a ha]
        rw [List.map_id] at this
        exact this
      simp -implicitDefEqProofs [h4', h12', h5, h6, c1, all_bools]
      by_cases hr : R.all p = true
      · rw [hr]
        rw [hr] at hQ'
        simp -implicitDefEqProofs [c2, h6, all_bools]
        exact hQ' _
      · have hr' : R.all p = false := by simpa using hr
        rw [hr']
        rw [hr'] at hQ'
        simp -implicitDefEqProofs
        exact hQ' _
    · have h4' : ¬ (4 : Int) < (R.length : Int) := by omega
      have h12' : (12 : Int) < (X.length : Int) := by omega
      simp [h4, h12] at hQ'
      simp -implicitDefEqProofs [h4', h12']
      exact hQ' _
  · have h4' : (4 : Int) < (R.length : Int) := by omega
    simp [h4] at hQ'
    simp -implicitDefEqProofs [h4']
    exact hQ' _
end
end HP
set_option Elab.async false
set_option linter.all false
set_option maxRecDepth 100000
/-! J7: judged -/
namespace HP
open PySem L2 Pv
theorem mulN_rep {k l n : Nat} {d : D} (h : n ≤ 1000) (h1 : 1 ≤ n) : gMulN (k, .tup [d]) (l, .int (n : Int)) = some (0, .tup (List.replicate n d)) := by
  unfold gMulN gMulT gMulT2
  by_cases q : n = 1
  · subst q; rfl
  · have q1 : ¬ (n : Int) = 1 := by omega
    have q0 : ¬ (n : Int) = 0 := by omega
    have q2 : (2 : Int) ≤ n := by omega
    have q3 : (n : Int) ≤ 1000 := by omega
    have q4 : ¬ n = 0 := by omega
    simp [q1, q0, q2, q3, q4]
theorem comp_c {t : Tg} {T : Fb} {A : Fe} {j : Nat} {ρ : Pv.Env} {c : D} {ds : List D} (h : ∀ d ∈ ds, elemR j t T A ρ d = some (some c)) : compL t T A j ρ ds = some (ds.map fun _ => c) := by
  have := comp_map (inj := id) (X := fun _ => c) (xs := ds) (t := t) (T := T) (A := A) (j := j) (ρ := ρ) h
  rw [List.map_id] at this
  exact this
theorem comp_m {t : Tg} {T : Fb} {A : Fe} {j : Nat} {ρ : Pv.Env} (X : D → D) {ds : List D} (h : ∀ d ∈ ds, elemR j t T A ρ d = some (some (X d))) : compL t T A j ρ ds = some (ds.map X) := by
  have := comp_map (inj := id) (X := X) (xs := ds) (t := t) (T := T) (A := A) (j := j) (ρ := ρ) h
  rw [List.map_id] at this
  exact this
def ev (o : Option W) : Bool := match o with
  | some (0, .bl b) => b
  | _ => false
theorem xh_gen {R X : List D} (hp : ∀ a ∈ R, ∃ b, K36.m_is_link [.tup X, a] = some (0, .bl b)) (hq : ∀ a ∈ X, ∃ b, K36.m_is_cell [.tup X, a] = some (0, .bl b)) : K36.m_is_heap [.tup [.tup R, .tup X]] = some (0, .bl (decide (R.length ≤ 4) && (decide (X.length ≤ 12) && (R.all (fun a => ev (K36.m_is_link [.tup X, a])) && X.all fun a => ev (K36.m_is_cell [.tup X, a]))))) :=
  xheap _ _ (fun a ha => by obtain ⟨b, e⟩ := hp a ha; rw [e]; rfl) (fun a ha => by obtain ⟨b, e⟩ := hq a ha; rw [e]; rfl)
theorem xh_cell {R X : List D} (hp : ∀ a ∈ R, ∃ b, K36.m_is_link [.tup X, a] = some (0, .bl b)) (hq : ∀ a ∈ X, ∃ b, K36.m_is_cell [.tup X, a] = some (0, .bl b)) {e : D} (he : e ∈ X) (h : K36.m_is_cell [.tup X, e] = some (0, .bl false)) : K36.m_is_heap [.tup [.tup R, .tup X]] = some (0, .bl false) := by
  rw [xh_gen hp hq]
  have : (X.all fun a => ev (K36.m_is_cell [.tup X, a])) = false := by
    rw [List.all_eq_false]
    exact ⟨e, he, by rw [h]; simp [ev]⟩
  rw [this]; simp
theorem xh_root {R X : List D} (hp : ∀ a ∈ R, ∃ b, K36.m_is_link [.tup X, a] = some (0, .bl b)) (hq : ∀ a ∈ X, ∃ b, K36.m_is_cell [.tup X, a] = some (0, .bl b)) {e : D} (he : e ∈ R) (h : K36.m_is_link [.tup X, e] = some (0, .bl false)) : K36.m_is_heap [.tup [.tup R, .tup X]] = some (0, .bl false) := by
  rw [xh_gen hp hq]
  have : (R.all fun a => ev (K36.m_is_link [.tup X, a])) = false := by
    rw [List.all_eq_false]
    exact ⟨e, he, by rw [h]; simp [ev]⟩
  rw [this]; simp
theorem xh_len {R X : List D} (h : 4 < R.length ∨ 12 < X.length) : K36.m_is_heap [.tup [.tup R, .tup X]] = some (0, .bl false) := by
  refine def_of0 rfl rfl fun Q hQ => ?_
  unfold K36.b_is_heap
  by_cases h4 : R.length ≤ 4
  · have h4' : ¬ (4 : Int) < (R.length : Int) := by omega
    have h12' : (12 : Int) < (X.length : Int) := by omega
    simp -implicitDefEqProofs [h4', h12']
    exact hQ _
  · have h4' : (4 : Int) < (R.length : Int) := by omega
    simp -implicitDefEqProofs [h4']
    exact hQ _
theorem judged_run {h : Hx} (ok : Ok h) (hn : h.n ≤ 10) (hn0 : 0 < h.n) : K35.m_law_judged [h.d] = some (0, .bl true) := by
  refine def_of0 rfl rfl fun Q hQ => ?_
  unfold K35.b_law_judged
  have h4 := ok.nr
  have m4 : ∀ k l d, gMulN (k, .tup [d]) (l, .int 4) = some (0, .tup [d, d, d, d]) := fun k l d => mulN_rep (n := 4) (by omega) (by omega)
  have m5 : ∀ k l d, gMulN (k, .tup [d]) (l, .int 5) = some (0, .tup [d, d, d, d, d]) := fun k l d => mulN_rep (n := 5) (by omega) (by omega)
  have m12 : ∀ k l d, gMulN (k, .tup [d]) (l, .int 12) = some (0, .tup (List.replicate 12 d)) := fun k l d => mulN_rep (n := 12) (by omega) (by omega)
  have mn : ∀ k l d, gMulN (k, .tup [d]) (l, .int (11 - (h.n : Int))) = some (0, .tup (List.replicate (11 - h.n) d)) := fun k l d => by
    have := mulN_rep (k := k) (l := l) (n := 11 - h.n) (d := d) (by omega) (by omega)
    rw [← this]; congr 3; omega
  have hc : h.cds = .tup ((List.range h.n).map fun i => cd (h.c i)) := rfl
  obtain ⟨cs, hcs⟩ : ∃ cs, cs = (List.range h.n).map fun i => cd (h.c i) := ⟨_, rfl⟩
  rw [← hcs] at hc
  have hl : cs.length = h.n := by rw [hcs]; simp
  have e0 : K35.m_law_like = K36.m_law_like := rfl
  have e1 : K35.m_is_heap = K36.m_is_heap := rfl
  have l5 : K36.m_law_like [.bl true, .bl true] = some (0, .bl true) := like rfl
  have l6 : K36.m_law_like [.bl false, .bl false] = some (0, .bl true) := like rfl
  have s0 : h.n + (11 - h.n) + 1 ≤ 1000000 := by omega
  have s1 : h.n + (11 - h.n) ≤ 1000000 := by omega
  have s2 : h.n + 1 ≤ 1000000 := by omega
  have s3 : h.n + 12 ≤ 1000000 := by omega
  have s4 : h.n + 2 ≤ 1000000 := by omega
  rw [show h.d = D.tup [D.tup (h.rs.map Fd.d), h.cds] from rfl, hc]
  have bx : ∀ ys, Bx h (cs ++ ys) := fun ys => by rw [hcs]; exact bx_app ys
  have bx0 : Bx h cs := by have := bx []; rwa [List.append_nil] at this
  have hr : ∀ X, Bx h X → ∀ a ∈ h.rs.map Fd.d, K36.m_is_link [.tup X, a] = some (0, .bl true) := fun X b a ha => by
    obtain ⟨f, hf, rfl⟩ := List.mem_map.mp ha
    cases f with
    | no => exact xlink_no
    | nu i => exact absurd hf (ok.rn i)
    | ln a => exact xlink_ln b (ok.rl a hf)
  have hcl : ∀ X, Bx h X → ∀ a ∈ cs, K36.m_is_cell [.tup X, a] = some (0, .bl true) := fun X b a ha => by
    rw [hcs] at ha
    obtain ⟨i, hi, rfl⟩ := List.mem_map.mp ha
    have hi' := List.mem_range.mp hi
    exact xcell_cd b (ok.sz i hi') fun fs e a ha => ok.cl i fs hi' e a ha
  have bad : ∀ (e : D), K36.m_is_cell [.tup (cs ++ [e]), e] = some (0, .bl false) → K36.m_is_heap [.tup [.tup (h.rs.map Fd.d), .tup (cs ++ [e])]] = some (0, .bl false) := fun e he =>
    xh_cell (fun a ha => ⟨true, hr _ (bx _) a ha⟩) (fun a ha => by
      rcases List.mem_append.mp ha with z | z
      · exact ⟨true, hcl _ (bx _) a z⟩
      · simp at z; rw [z]; exact ⟨false, he⟩) (e := e) (by simp) he
  have badr : ∀ (e : D), K36.m_is_link [.tup cs, e] = some (0, .bl false) → K36.m_is_heap [.tup [.tup [e], .tup cs]] = some (0, .bl false) := fun e he =>
    xh_root (fun a ha => by simp at ha; rw [ha]; exact ⟨false, he⟩) (fun a ha => ⟨true, hcl _ bx0 a ha⟩) (e := e) (by simp) he
  have ga2 : gAll (1, .lst [.bl true, .bl true, .bl true, .bl true, .bl true, .bl true, .bl true, .bl true, .bl true, .bl true, .bl true, .bl true, .bl true, .bl true, .bl true, .bl true, .bl true, .bl true, .bl true, .bl true, .bl true, .bl true]) = some (0, .bl true) := rfl
  have ga : gAll (1, .lst [.bl true, .bl true, .bl true]) = some (0, .bl true) := rfl
  have ln : K36.m_law_like = K36.m_law_like := rfl
  have yes : ∀ (d : D) (v0 v1 v2 v3 v4 v5 v6 v8 : Option W), K36.m_is_heap [d] = some (0, .bl true) → elemR 0 (.nm 7) bYes (pFn K36.m_law_like [] (aCons (pFn K36.m_is_heap [] (aCons (pBv 7) aNil)) (aCons (pC (.bl true)) aNil))) [v0, v1, v2, v3, v4, v5, v6, none, v8] d = some (some (.bl true)) := fun d v0 v1 v2 v3 v4 v5 v6 v8 h => by
    simp -implicitDefEqProofs [h, l5]
  have no : ∀ (d : D) (v0 v1 v2 v3 v4 v5 v6 v8 : Option W), K36.m_is_heap [d] = some (0, .bl false) → elemR 0 (.nm 7) bYes (pFn K36.m_law_like [] (aCons (pFn K36.m_is_heap [] (aCons (pBv 7) aNil)) (aCons (pC (.bl false)) aNil))) [v0, v1, v2, v3, v4, v5, v6, none, v8] d = some (some (.bl true)) := fun d v0 v1 v2 v3 v4 v5 v6 v8 h => by
    simp -implicitDefEqProofs [h, l6]
  simp -implicitDefEqProofs [m4, m5, m12, mn, e0, e1, l5, l6, hl, s0, s1, s2, s3, s4]
  rw [comp_c (c := .bl true)]
  · simp -implicitDefEqProofs [m4, m5, m12, mn, e0, e1, l5, l6, hl, s0, s1, s2, s3, s4, ga]
    rw [comp_m (fun d => .tup [.tup (h.rs.map Fd.d), .tup (cs ++ [d])])]
    · simp -implicitDefEqProofs [m4, m5, m12, mn, e0, e1, l5, l6, hl, s0, s1, s2, s3, s4, Pv.big]
      rw [comp_c (c := .bl true)]
      · simp -implicitDefEqProofs [ga2]
        exact hQ _
      · intro d hd
        refine no d _ _ _ _ _ _ _ _ ?_
        simp at hd
        rcases hd with rfl | rfl | rfl | rfl | rfl | rfl | rfl | rfl | rfl | rfl | rfl | rfl | rfl | rfl | rfl | rfl | rfl | rfl | rfl | rfl | rfl | rfl
        · rfl
        · rfl
        · rfl
        · rfl
        · refine def_of0 rfl rfl fun Q hQ => ?_
          unfold K36.b_is_heap
          have h4' : ¬ (4 : Int) < (h.rs.length : Int) := by omega
          simp -implicitDefEqProofs [h4']
          exact hQ _
        · rfl
        · rfl
        · exact xh_len (.inl (by simp))
        · exact xh_len (.inr (by
            rw [show (13 : Int) = ((13 : Nat) : Int) from rfl, cut_take]
            simp [hl]; omega))
        · exact badr _ (xlink_out (by omega))
        · exact badr _ xlink_neg
        · exact xh_root (fun a ha => by simp at ha; rw [ha]; exact ⟨false, xlink_bl _⟩) (fun a ha => by
            simp at ha
            rw [ha]
            exact ⟨_, xcell_of (fun _ => true) fun d hd => by simp at hd; rw [hd]; exact xfield_no⟩) (e := .bl true) (by simp) (xlink_bl _)
        · exact badr _ (xlink_tup _)
        · exact bad _ (xcell_lst _)
        · exact bad _ (xcell_of (fun _ => true) fun d hd => by cases hd)
        · exact bad _ (xcell_of (fun _ => true) fun d hd => by simp at hd; rw [hd]; exact xfield_no)
        · exact bad _ (xcell_of (fun _ => false) fun d hd => by simp at hd; rw [hd]; exact xfield_bl _)
        · exact bad _ (xcell_of (fun _ => false) fun d hd => by simp at hd; rw [hd]; exact xfield_st _)
        · exact bad _ (xcell_of (fun _ => false) fun d hd => by simp at hd; rw [hd]; exact xfield_1 _)
        · exact bad _ (xcell_of (fun _ => false) fun d hd => by
            simp at hd; rw [hd]
            exact xfield_int _ _ (xlink_out (i := h.n + 1) (by simp [hl])))
        · exact bad _ (xcell_of (fun _ => false) fun d hd => by simp at hd; rw [hd]; exact xfield_str _)
        · have hx : K36.m_is_cell [.tup (cs ++ [D.non, D.tup [D.int (h.n : Int)]]), D.tup [D.int (h.n : Int)]] = some (0, .bl false) := xcell_of (fun _ => false) fun d hd => by
            simp at hd; rw [hd]
            exact xfield_int _ _ (xlink_in (x := .non) (by rw [List.getElem?_append_right (by omega)]; simp [hl]))
          exact xh_cell (fun a ha => ⟨true, hr _ (bx _) a ha⟩) (fun a ha => by
            rcases List.mem_append.mp ha with z | z
            · exact ⟨true, hcl _ (bx _) a z⟩
            · simp at z
              rcases z with rfl | rfl
              · exact ⟨true, xcell_no⟩
              · exact ⟨false, hx⟩) (e := D.tup [D.int (h.n : Int)]) (by simp) hx
    · intro d hd
      simp -implicitDefEqProofs [hl, s2]
  · intro d hd
    refine yes d _ _ _ _ _ _ _ _ ?_
    simp at hd
    rcases hd with rfl | rfl | rfl
    · have := heap_is ok
      rw [show h.d = D.tup [D.tup (h.rs.map Fd.d), h.cds] from rfl, hc] at this
      exact this
    · have := xheap (R := [D.non, D.non, D.non, D.non]) (X := cs ++ (List.replicate (11 - h.n) D.non ++ [D.tup [D.non, D.tup [D.str "num", D.int (-7)], D.non, D.tup [D.str "num", D.int 0]]])) (fun _ => true) (fun _ => true) (fun a ha => by simp at ha; rw [ha]; exact xlink_no) (fun a ha => by
        rcases List.mem_append.mp ha with z | z
        · exact hcl _ (bx _) a z
        · rcases List.mem_append.mp z with z | z
          · have := (List.mem_replicate.mp z).2
            rw [this]; exact xcell_no
          · simp at z
            rw [z]
            have := xcell_of (C := .tup (cs ++ (List.replicate (11 - h.n) D.non ++ [D.tup [D.non, D.tup [D.str "num", D.int (-7)], D.non, D.tup [D.str "num", D.int 0]]]))) (x := [D.non, D.tup [D.str "num", D.int (-7)], D.non, D.tup [D.str "num", D.int 0]]) (fun _ => true) (fun d hd => by
              simp at hd
              rcases hd with rfl | rfl | rfl | rfl
              · exact xfield_no
              · exact xfield (h := h) (bx _) (f := .nu (-7)) (fun a e => by cases e)
              · exact xfield_no
              · exact xfield (h := h) (bx _) (f := .nu 0) (fun a e => by cases e))
            rw [this]; rfl)
      rw [this]
      have hx : h.n + (11 - h.n + 1) ≤ 12 := by omega
      simp [hl, hx]
    · exact xheap (R := []) (X := []) (fun _ => true) (fun _ => true) (fun a ha => by cases ha) (fun a ha => by cases ha)
end HP
set_option Elab.async false
set_option linter.all false
set_option maxRecDepth 100000
/-! J8: rows of rooms -/
namespace HP
open PySem L2 Pv
def rm (p : Nat × Bool) : D := .tup [.int (p.1 : Int), .bl p.2]
def rmD (L : List (Nat × Bool)) : D := .tup (L.map rm)
section
variable {k l : Nat} {L : List (Nat × Bool)}
@[simp] theorem rm_0 {p : Nat × Bool} : gIx (k, rm p) (l, .int 0) = some (0, .int (p.1 : Int)) := by unfold rm; simp
@[simp] theorem rm_1 {p : Nat × Bool} : gIx (k, rm p) (l, .int 1) = some (0, .bl p.2) := by unfold rm; simp
@[simp] theorem rm_ix {i : Nat} : gIx (k, rmD L) (l, .int (i : Int)) = (L[i]?).map fun p => (0, rm p) := by
  unfold rmD
  rw [ix_t, atI_n]
  simp; rfl
@[simp] theorem rm_len : gLen (k, rmD L) = some (0, .int (L.length : Int)) := by unfold rmD; simp
@[simp] theorem rm_seq : seqD (rmD L) = some (false, L.map rm) := rfl
@[simp] theorem rm_box : isBox (rmD L) = false := rfl
@[simp] theorem rm_bx {p : Nat × Bool} : isBox (rm p) = false := rfl
@[simp] theorem rm_pre {p : Nat} : gSl (k, rmD L) none (some (p : Int)) = some (0, .tup ((L.take p).map rm)) := by
  unfold rmD; rw [sl_t, cut_take, List.map_take]
@[simp] theorem rm_post {p : Nat} : gSl (k, rmD L) (some (p : Int)) none = some (0, .tup ((L.drop p).map rm)) := by
  unfold rmD; rw [sl_t, cut_drop, List.map_drop]
@[simp] theorem rm_mid {p q : Nat} : gSl (k, rmD L) (some (p : Int)) (some (q : Int)) = some (0, .tup (((L.take q).drop p).map rm)) := by
  unfold rmD; rw [sl_t, cut_both, List.map_drop, List.map_take]
theorem rm_nob (L : List (Nat × Bool)) : noBox (rmD L) = true := noBoxs_all fun d hd => by obtain ⟨f, _, rfl⟩ := List.mem_map.mp hd; rfl
end
theorem place_run (L : List (Nat × Bool)) (b : Nat) : ∃ p, p ≤ L.length ∧ K35.m_law_place [rmD L, .int (b : Int)] = some (0, .int (p : Int)) := by
  have main : ∃ w, K35.m_law_place [rmD L, .int (b : Int)] = some w ∧ ∃ p, p ≤ L.length ∧ w = (0, .int ((p : Nat) : Int)) := by
    refine def_ex _ rfl (fun w ⟨p, _, e⟩ => by rw [e]; rfl) fun Q hQ => ?_
    unfold K35.b_law_place
    simp
    refine wp_for (inj := rm) L (fun pre ρ => ∃ (p s : Nat) (x y : Option W), p ≤ pre.length ∧ ρ = [some (0, rmD L), some (0, .int (b : Int)), some (0, .int (p : Int)), some (0, .int (s : Int)), x, y]) rfl ⟨0, 0, none, none, Nat.le_refl _, by simp⟩ ?_ ?_
    · rintro pre ⟨s1, f1⟩ post ρ hp ⟨p, s, x, y, hle, rfl⟩
      unfold rm
      by_cases q : s < b
      · simp [q]
        exact ⟨p + 1, by omega, by simp, s + s1, by simp⟩
      · simp [q]
        exact ⟨p, by omega, rfl, s + s1, by simp⟩
    · rintro ρ ⟨p, s, x, y, hle, rfl⟩
      simp
      exact hQ _ _ ⟨p, hle, rfl⟩
  obtain ⟨w, e, p, hp, rfl⟩ := main
  exact ⟨p, hp, e⟩
def frAt (L : List (Nat × Bool)) (i : Nat) : Bool := match L[i]? with
  | some p => p.2
  | none => false
def loG (L : List (Nat × Bool)) (p : Nat) : Nat := if 0 < p ∧ frAt L (p - 1) = true then p - 1 else p
def hiG (L : List (Nat × Bool)) (p : Nat) : Nat := if p + 1 < L.length ∧ frAt L (p + 1) = true then p + 2 else p + 1
def giv (L : List (Nat × Bool)) (p : Nat) : List (Nat × Bool) := L.take (loG L p) ++ [((((L.take (hiG L p)).drop (loG L p)).map Prod.fst).sum, true)] ++ L.drop (hiG L p)
theorem giv_len (L : List (Nat × Bool)) (p : Nat) (h : p ≤ L.length) : (giv L p).length ≤ L.length + 1 := by
  unfold giv loG hiG
  simp
  split <;> split <;> omega
theorem law_given_run (L : List (Nat × Bool)) (p : Nat) (hp : p ≤ L.length) (hl : L.length ≤ 1000) : K35.m_law_given [rmD L, .int (p : Int)] = some (0, rmD (giv L p)) := by
  refine def_of0 rfl (rm_nob _) fun Q hQ => ?_
  unfold K35.b_law_given
  have hq := hQ
  unfold giv at hq
  have hp0 : ((0 : Int) < (p : Int)) ↔ 0 < p := by omega
  have hpl : ((p : Int) + 1 < (L.length : Int)) ↔ p + 1 < L.length := by omega
  obtain ⟨r, hr⟩ : ∃ r : Nat, r = p + 1 := ⟨_, rfl⟩
  have hr' : (p : Int) + 1 = (r : Int) := by omega
  have hrl : ((r : Int) < (L.length : Int)) ↔ r < L.length := by omega
  have rest : ∀ (lo : Nat) (x y : Option W), lo ≤ p → (loG L p = lo) → lvl0 (some x) = true → lvl0 (some y) = true → Wp (bSeq (sIf (bAnd (bVal (pOp2 (gCmpI fun i j => decide (i < j)) (pBv 3) (pCall (on1 gLen) (aCons (pBv 0) aNil)))) (bVal (pOp2 gIx (pOp2 gIx (pBv 0) (pBv 3)) (pC (.int 1))))) (sAsg 3 (pOp2 gAdd (pBv 3) (pC (.int 1)))) bNil) (sRet (pOp2 gAdd (pOp2 gAdd (pSl (pBv 0) oNone (oSome (pBv 2))) (pTup (aCons (pTup (aCons (pCall (on1 gSum) (aCons (pLc 0 (iSeq (pSl (pBv 0) (oSome (pBv 2)) (oSome (pBv 3)))) (.tp [.nm 4, .nm 5]) ([4, 5]) bYes (pVar 4)) aNil)) (aCons (pC (.bl true)) aNil))) aNil))) (pSl (pBv 0) (oSome (pBv 3)) oNone))) [some (0, rmD L), some (0, .int (p : Int)), some (0, .int (lo : Int)), some (0, .int (r : Int)), x, y]) Q := by
    intro lo x y hlo elo hx hy
    have fin : ∀ (hi : Nat), hiG L p = hi → ∀ z, Q (.rt (0, .tup ((L.take lo).map rm ++ .tup [.int ((((L.take hi).drop lo).map fun p => (p.1 : Int)).sum), .bl true] :: (L.drop hi).map rm))) z := fun hi ehi z => by
      have := hq z
      rw [elo, ehi] at this
      rw [sum_cast Prod.fst]
      unfold rmD at this
      simpa [rm] using this
    have ge : ∀ hi : Nat, compL (.tp [.nm 4, .nm 5]) bYes (pVar 4) 0 [some (0, rmD L), some (0, .int (p : Int)), some (0, .int (lo : Int)), some (0, .int (hi : Int)), none, none] (((L.take hi).drop lo).map rm) = some (((L.take hi).drop lo).map fun p => .int (p.1 : Int)) := fun hi => by
      refine comp_map (fun p : Nat × Bool => .int (p.1 : Int)) fun a ha => ?_
      unfold rm
      simp
    have b1 : ∀ hi, ((L.take hi).drop lo).length ≤ 1000000 := fun hi => by simp; omega
    have b2 : min lo L.length + 1 ≤ 1000000 := by omega
    have b3 : ∀ hi, min lo L.length + 1 + (L.length - hi) ≤ 1000000 := fun hi => by omega
    have b4 : ∀ hi, min hi L.length - lo ≤ 1000000 := fun hi => by omega
    have sm : ∀ hi, gSum (1, .lst (((L.take hi).drop lo).map fun p => .int (p.1 : Int))) = some (0, .int ((((L.take hi).drop lo).map fun p => (p.1 : Int)).sum)) := fun hi => sum_ints _ _
    simp only [List.map_drop, List.map_take] at ge sm fin
    by_cases h1 : r < L.length
    · have hL := List.getElem?_eq_getElem h1
      have hfr : frAt L (p + 1) = L[r].2 := by
        unfold frAt
        rw [← hr, hL]
      have hhi : hiG L p = if L[r].2 = true then p + 2 else p + 1 := by
        unfold hiG
        rw [hfr]
        have : p + 1 < L.length := by omega
        simp [this]
      cases hb : L[r].2 with
      | true =>
        rw [hb, if_pos rfl] at hhi
        have hs : (r : Int) + 1 = ((p + 2 : Nat) : Int) := by omega
        simp -implicitDefEqProofs [hrl, h1, hb, hs, -Int.natCast_add, hx, hy, ge, b1, b2, b3, b4, sm]
        exact fin _ hhi _
      | false =>
        rw [hb, if_neg (by simp)] at hhi
        rw [← hr] at hhi
        simp -implicitDefEqProofs [hrl, h1, hb, -Int.natCast_add, hx, hy, ge, b1, b2, b3, b4, sm]
        exact fin _ hhi _
    · have hhi : hiG L p = r := by
        unfold hiG
        rw [if_neg (fun z => h1 (by omega))]; exact hr.symm
      simp -implicitDefEqProofs [hrl, h1, -Int.natCast_add, hx, hy, ge, b1, b2, b3, b4, sm]
      exact fin _ hhi _
  by_cases h0 : 0 < p
  · obtain ⟨m, rfl⟩ : ∃ m, p = m + 1 := ⟨p - 1, by omega⟩
    have hm : m < L.length := by omega
    have hm1 : ((m + 1 : Nat) : Int) - 1 = (m : Int) := by omega
    have hL := List.getElem?_eq_getElem hm
    have hfr : frAt L m = L[m].2 := by unfold frAt; rw [hL]
    have hlo : loG L (m + 1) = if L[m].2 = true then m else m + 1 := by
      unfold loG
      simp [hfr]
    cases hb : L[m].2 with
    | true =>
      rw [hb, if_pos rfl] at hlo
      have R := rest m none none (by omega) hlo rfl rfl
      simp -implicitDefEqProofs [hp0, h0, hm1, hm, hb, hr', -Int.natCast_add] at R ⊢
      exact R
    | false =>
      rw [hb, if_neg (by simp)] at hlo
      have R := rest (m + 1) none none (by omega) hlo rfl rfl
      simp -implicitDefEqProofs [hp0, h0, hm1, hm, hb, hr', -Int.natCast_add] at R ⊢
      exact R
  · have hlo : loG L p = p := by unfold loG; rw [if_neg (fun z => h0 z.1)]
    have R := rest p none none (Nat.le_refl _) hlo rfl rfl
    simp -implicitDefEqProofs [hp0, h0, hr', -Int.natCast_add] at R ⊢
    exact R
theorem room_given_run (L : List (Nat × Bool)) (p : Nat) (hp : p ≤ L.length) (hl : L.length ≤ 1000) : K35.m_room_given [rmD L, .int (p : Int)] = some (0, rmD (giv L p)) := by
  refine def_of0 rfl (rm_nob _) fun Q hQ => ?_
  unfold K35.b_room_given
  have hq := hQ
  unfold giv at hq
  have hp0 : ((0 : Int) < (p : Int)) ↔ 0 < p := by omega
  obtain ⟨r, hr⟩ : ∃ r : Nat, r = p + 1 := ⟨_, rfl⟩
  have hr' : (p : Int) + 1 = (r : Int) := by omega
  have hrl : ((r : Int) < (L.length : Int)) ↔ r < L.length := by omega
  have rest : ∀ (lo : Nat), lo ≤ p → (loG L p = lo) → Wp (bSeq (sAsg 3 (pIf (bAnd (bVal (pOp2 (gCmpI fun i j => decide (i < j)) (pOp2 gAdd (pBv 1) (pC (.int 1))) (pCall (on1 gLen) (aCons (pBv 0) aNil)))) (bVal (pOp2 gIx (pOp2 gIx (pBv 0) (pOp2 gAdd (pBv 1) (pC (.int 1)))) (pC (.int 1))))) (pOp2 gAdd (pBv 1) (pC (.int 1))) (pVar 1))) (bSeq (sAsg 4 (pCall (on1 gSum) (aCons (pLc 0 (iSeq (pSl (pBv 0) (oSome (pBv 2)) (oSome (pOp2 gAdd (pBv 3) (pC (.int 1)))))) (.nm 5) [5] bYes (pOp2 gIx (pBv 5) (pC (.int 0)))) aNil))) (sRet (pOp2 gAdd (pOp2 gAdd (pSl (pBv 0) oNone (oSome (pBv 2))) (pTup (aCons (pTup (aCons (pVar 4) (aCons (pC (.bl true)) aNil))) aNil))) (pSl (pBv 0) (oSome (pOp2 gAdd (pBv 3) (pC (.int 1)))) oNone)))) [some (0, rmD L), some (0, .int (p : Int)), some (0, .int (lo : Int)), none, none, none]) Q := by
    intro lo hlo elo
    have fin : ∀ (hi : Nat), hiG L p = hi → ∀ z, Q (.rt (0, .tup ((L.take lo).map rm ++ .tup [.int ((((L.take hi).drop lo).map fun p => (p.1 : Int)).sum), .bl true] :: (L.drop hi).map rm))) z := fun hi ehi z => by
      have := hq z
      rw [elo, ehi] at this
      rw [sum_cast Prod.fst]
      unfold rmD at this
      simpa [rm] using this
    have ge : ∀ (hi hj : Nat), compL (.nm 5) bYes (pOp2 gIx (pBv 5) (pC (.int 0))) 0 [some (0, rmD L), some (0, .int (p : Int)), some (0, .int (lo : Int)), some (0, .int (hj : Int)), none, none] (((L.take hi).drop lo).map rm) = some (((L.take hi).drop lo).map fun p => .int (p.1 : Int)) := fun hi hj => by
      refine comp_map (fun p : Nat × Bool => .int (p.1 : Int)) fun a ha => ?_
      simp
    have b2 : min lo L.length + 1 ≤ 1000000 := by omega
    have b3 : ∀ hi, min lo L.length + 1 + (L.length - hi) ≤ 1000000 := fun hi => by omega
    have b4 : ∀ hi, min hi L.length - lo ≤ 1000000 := fun hi => by omega
    have sm : ∀ hi, gSum (1, .lst (((L.take hi).drop lo).map fun p => .int (p.1 : Int))) = some (0, .int ((((L.take hi).drop lo).map fun p => (p.1 : Int)).sum)) := fun hi => sum_ints _ _
    simp only [List.map_drop, List.map_take] at ge sm fin
    by_cases h1 : r < L.length
    · have hL := List.getElem?_eq_getElem h1
      have hfr : frAt L (p + 1) = L[r].2 := by
        unfold frAt
        rw [← hr, hL]
      have hhi : hiG L p = if L[r].2 = true then p + 2 else p + 1 := by
        unfold hiG
        rw [hfr]
        have : p + 1 < L.length := by omega
        simp [this]
      have hs : (r : Int) + 1 = ((p + 2 : Nat) : Int) := by omega
      cases hb : L[r].2 with
      | true =>
        rw [hb, if_pos rfl] at hhi
        simp -implicitDefEqProofs [hrl, h1, hb, hs, hr', -Int.natCast_add, ge, b2, b3, b4, sm]
        exact fin _ hhi _
      | false =>
        rw [hb, if_neg (by simp)] at hhi
        rw [← hr] at hhi
        simp -implicitDefEqProofs [hrl, h1, hb, hs, hr', -Int.natCast_add, ge, b2, b3, b4, sm]
        exact fin _ hhi _
    · have hhi : hiG L p = r := by
        unfold hiG
        rw [if_neg (fun z => h1 (by omega))]; exact hr.symm
      simp -implicitDefEqProofs [hrl, h1, hr', -Int.natCast_add, ge, b2, b3, b4, sm]
      exact fin _ hhi _
  by_cases h0 : 0 < p
  · obtain ⟨m, rfl⟩ : ∃ m, p = m + 1 := ⟨p - 1, by omega⟩
    have hm : m < L.length := by omega
    have hm1 : ((m + 1 : Nat) : Int) - 1 = (m : Int) := by omega
    have hL := List.getElem?_eq_getElem hm
    have hfr : frAt L m = L[m].2 := by unfold frAt; rw [hL]
    have hlo : loG L (m + 1) = if L[m].2 = true then m else m + 1 := by
      unfold loG
      simp [hfr]
    cases hb : L[m].2 with
    | true =>
      rw [hb, if_pos rfl] at hlo
      have R := rest m (by omega) hlo
      simp -implicitDefEqProofs [hp0, h0, hm1, hm, hb, hr', -Int.natCast_add] at R ⊢
      exact R
    | false =>
      rw [hb, if_neg (by simp)] at hlo
      have R := rest (m + 1) (by omega) hlo
      simp -implicitDefEqProofs [hp0, h0, hm1, hm, hb, hr', -Int.natCast_add] at R ⊢
      exact R
  · have hlo : loG L p = p := by unfold loG; rw [if_neg (fun z => h0 z.1)]
    have R := rest p (Nat.le_refl _) hlo
    simp -implicitDefEqProofs [hp0, h0, hr', -Int.natCast_add] at R ⊢
    exact R
end HP
set_option Elab.async false
set_option linter.all false
set_option maxRecDepth 100000
/-! J9: lost, first, best, taken -/
namespace HP
open PySem L2 Pv
theorem wp_idx {t : Tg} {f : Fs} {ρ : Pv.Env} {Q : Fl → Pv.Env → Prop} {inj : Nat → D} {ds : List D} (n : Nat) (I : Nat → Pv.Env → Prop) (hds : ds = (List.range n).map inj) (h0 : I 0 ρ)
    (hs : ∀ (m : Nat) (ρ : Pv.Env), m < n → I m ρ → bindP t f (inj m) ρ (turnQ (I (m + 1)) Q)) (hQ : ∀ ρ', I n ρ' → Q .nx ρ') : Wp (loopF t f ds ρ) Q := by
  refine wp_for (inj := inj) (List.range n) (fun pre ρ => I pre.length ρ) hds h0 (fun pre a post ρ hp h => ?_) fun ρ' h => hQ ρ' (by simpa using h)
  have hl : pre.length < n := by
    have := congrArg List.length hp
    simp at this; omega
  have ha : a = pre.length := by
    have h1 : (List.range n)[pre.length]? = some a := by rw [hp]; simp
    rw [List.getElem?_range hl] at h1
    exact (Option.some.inj h1).symm
  subst ha
  rw [List.length_append]
  exact hs _ ρ hl h
def rAt (L : List (Nat × Bool)) (i : Nat) : Nat × Bool := L.getD i (0, false)
theorem rAt_get {L : List (Nat × Bool)} {i : Nat} (h : i < L.length) : L[i]? = some (rAt L i) := by
  unfold rAt
  rw [List.getElem?_eq_getElem h]; simp [h]
theorem map_rAt (L : List (Nat × Bool)) : L.map rm = (List.range L.length).map fun i => rm (rAt L i) := by
  refine List.ext_getElem (by simp) fun i h1 h2 => ?_
  have h3 : i < L.length := by simpa using h1
  simp [rAt, h3]
theorem enum_rm (L : List (Nat × Bool)) : enumF 0 (L.map rm) = (List.range L.length).map fun i : Nat => D.tup [.int (i : Int), rm (rAt L i)] := by
  rw [map_rAt, enum_tab]
def okAt (L : List (Nat × Bool)) (z i : Nat) : Bool := (rAt L i).2 && decide (z ≤ (rAt L i).1)
def places (L : List (Nat × Bool)) (z : Nat) : List Nat := (List.range L.length).filter fun i => okAt L z i
def od' : Option Nat → D
  | none => .non
  | some i => .int (i : Int)
theorem od'_box (o : Option Nat) : noBox (od' o) = true := by cases o <;> rfl
/-! lost -/
def frees (L : List (Nat × Bool)) : List (Nat × Bool) := L.filter fun p => p.2
theorem maxI_0 : ∀ (r : List Int) (n : Int), 0 ≤ n → maxI n (r ++ [0]) = maxI n r
  | [], n, h => by
    show maxI (if n < 0 then 0 else n) [] = n
    rw [if_neg (by omega)]; rfl
  | m :: r, n, h => by
    show maxI (if n < m then m else n) (r ++ [0]) = maxI (if n < m then m else n) r
    refine maxI_0 r _ ?_
    split <;> omega
theorem max_frees (L : List (Nat × Bool)) : gMax (1, .lst ((L.map fun p : Nat × Bool => .int (p.1 : Int)) ++ [.int 0])) = some (0, .int (maxOr 0 (L.map fun p : Nat × Bool => (p.1 : Int)))) := by
  unfold gMax
  rw [ld_l, if_pos (by omega), Option.bind_some]
  have e : (L.map fun p : Nat × Bool => D.int (p.1 : Int)) ++ [D.int 0] = ((L.map fun p : Nat × Bool => (p.1 : Int)) ++ [0]).map fun i => D.int i := by simp
  have e2 := intsD_map (fun i : Int => i) ((L.map fun p : Nat × Bool => (p.1 : Int)) ++ [0])
  rw [e, e2, Option.bind_some, List.map_id']
  cases L with
  | nil => rfl
  | cons p L =>
    show some (0, D.int (maxI (p.1 : Int) ((L.map fun p : Nat × Bool => (p.1 : Int)) ++ [0]))) = _
    rw [maxI_0 _ _ (by omega)]; rfl
theorem lost_run (L : List (Nat × Bool)) (hl : L.length ≤ 1000) : K35.m_lost_room [rmD L] = some (0, .int (((frees L).map fun p : Nat × Bool => (p.1 : Int)).sum - maxOr 0 ((frees L).map fun p : Nat × Bool => (p.1 : Int)))) := by
  refine def_of0 rfl rfl fun Q hQ => ?_
  unfold K35.b_lost_room
  have h1 : L.length ≤ 1000000 := by omega
  simp [h1]
  rw [comp_fm (fun p : Nat × Bool => p.2) (fun p : Nat × Bool => .int (p.1 : Int))]
  · have e1 := sum_ints (fun p : Nat × Bool => (p.1 : Int)) (L.filter fun p => p.2)
    have e2 := fun k => maxDef_ints (k := k) (fun p : Nat × Bool => (p.1 : Int)) (L.filter fun p => p.2) 0
    simp [e1, e2]
    exact hQ _
  · rintro ⟨s, f⟩ hp
    unfold rm
    cases f <;> simp
/-! first -/
theorem places_mem {L : List (Nat × Bool)} {z i : Nat} : i ∈ places L z ↔ i < L.length ∧ okAt L z i = true := by
  unfold places; simp
theorem places_head {L : List (Nat × Bool)} {z m : Nat} (hm : m < L.length) (h : okAt L z m = true) (hb : ∀ j, j < m → okAt L z j = false) : ∃ r, places L z = m :: r := by
  unfold places
  obtain ⟨d, hd⟩ : ∃ d, L.length = m + (d + 1) := ⟨L.length - m - 1, by omega⟩
  rw [hd, List.range_add, List.filter_append, List.filter_eq_nil_iff.mpr fun j hj => by rw [hb j (List.mem_range.mp hj)]; simp]
  rw [List.range_succ_eq_map, List.map_cons, List.nil_append, Nat.add_zero, List.filter_cons_of_pos h]
  exact ⟨_, rfl⟩
theorem step {L : List (Nat × Bool)} {z m : Nat} (hb : ∀ j, j < m → okAt L z j = false) (ho : okAt L z m = false) : ∀ j, j < m + 1 → okAt L z j = false := fun j hj => by
  by_cases e : j = m
  · rw [e]; exact ho
  · exact hb j (by omega)
theorem first_run (L : List (Nat × Bool)) (z : Nat) (hl : L.length ≤ 1000) : K35.m_first_room [rmD L, .int (z : Int)] = some (0, od' (places L z).head?) := by
  refine def_of0 rfl (od'_box _) fun Q hQ => ?_
  unfold K35.b_first_room
  have h1 : L.length ≤ 1000000 := by omega
  simp [enum_rm]
  refine wp_idx L.length (fun m ρ => (∀ j, j < m → okAt L z j = false) ∧ ∃ x y w, ρ = [some (0, rmD L), some (0, .int (z : Int)), x, y, w]) rfl ⟨fun j hj => by omega, _, _, _, rfl⟩ ?_ ?_
  · rintro m ρ hm ⟨hb, x, y, w, rfl⟩
    rw [bindP_tp]
    unfold rm
    have hz : ((z : Int) ≤ ((rAt L m).1 : Int)) ↔ z ≤ (rAt L m).1 := by omega
    cases hf : (rAt L m).2 with
    | false =>
      have ho : okAt L z m = false := by unfold okAt; rw [hf]; rfl
      simp [hf]
      exact step hb ho
    | true =>
      by_cases hs : z ≤ (rAt L m).1
      · have ho : okAt L z m = true := by unfold okAt; rw [hf, decide_eq_true hs]; rfl
        simp [hf, hs]
        obtain ⟨r, hr⟩ := places_head hm ho hb
        have := hQ [some (0, rmD L), some (0, D.int ↑z), some (0, D.int ↑m), some (0, D.int ↑(rAt L m).fst), some (0, D.bl true)]
        rw [hr] at this
        exact this
      · have ho : okAt L z m = false := by unfold okAt; rw [hf, decide_eq_false hs]; rfl
        simp [hf, hs]
        exact step hb ho
  · rintro ρ ⟨hb, x, y, w, rfl⟩
    simp
    have hn : places L z = [] := List.filter_eq_nil_iff.mpr fun j hj => by rw [hb j (List.mem_range.mp hj)]; simp
    have := hQ [some (0, rmD L), some (0, D.int ↑z), x, y, w]
    rw [hn] at this
    exact this
/-! best -/
def sz (L : List (Nat × Bool)) (i : Nat) : Nat := (rAt L i).1
def bests (L : List (Nat × Bool)) (z : Nat) : List (Nat × Nat) := (places L z).map fun i => (sz L i, i)
def bestO (L : List (Nat × Bool)) (z : Nat) : Option Nat := (((bests L z).mergeSort lePr).head?).map Prod.snd
def Bst (L : List (Nat × Bool)) (z n : Nat) : Option Nat → Prop
  | none => ∀ j, j < n → okAt L z j = false
  | some b => b < n ∧ okAt L z b = true ∧ ∀ j, j < n → okAt L z j = true → sz L b < sz L j ∨ (sz L b = sz L j ∧ b ≤ j)
theorem bst_eq {L : List (Nat × Bool)} {z : Nat} {o : Option Nat} (h : Bst L z L.length o) : bestO L z = o := by
  unfold bestO
  cases o with
  | none =>
    have hn : bests L z = [] := by
      unfold bests places
      rw [List.filter_eq_nil_iff.mpr fun j hj => by rw [h j (List.mem_range.mp hj)]; simp]; rfl
    rw [hn, List.mergeSort_nil]; rfl
  | some b =>
    obtain ⟨h1, h2, h3⟩ := h
    have hb : (sz L b, b) ∈ bests L z := List.mem_map.mpr ⟨b, places_mem.mpr ⟨h1, h2⟩, rfl⟩
    cases hs : (bests L z).mergeSort lePr with
    | nil =>
      have := List.length_mergeSort (le := lePr) (bests L z)
      rw [hs] at this
      rw [List.eq_nil_of_length_eq_zero this.symm] at hb
      cases hb
    | cons p r =>
      obtain ⟨k1, k2⟩ := sorted_head hs
      obtain ⟨i, hi, rfl⟩ := List.mem_map.mp k1
      obtain ⟨i1, i2⟩ := places_mem.mp hi
      have a := h3 i i1 i2
      have c := k2 _ hb
      unfold lePr at c
      simp at c
      show some i = some b
      congr 1
      omega
theorem best_run (L : List (Nat × Bool)) (z : Nat) (hl : L.length ≤ 1000) : K35.m_best_room [rmD L, .int (z : Int)] = some (0, od' (bestO L z)) := by
  refine def_of0 rfl (od'_box _) fun Q hQ => ?_
  unfold K35.b_best_room
  have h1 : L.length ≤ 1000000 := by omega
  simp [enum_rm]
  refine wp_idx L.length (fun m ρ => ∃ o, Bst L z m o ∧ ∃ x y w, ρ = [some (0, rmD L), some (0, .int (z : Int)), some (0, od' o), x, y, w]) rfl ⟨none, fun j hj => by omega, _, _, _, rfl⟩ ?_ ?_
  · rintro m ρ hm ⟨o, hb, x, y, w, rfl⟩
    rw [bindP_tp]
    unfold rm
    have keep : okAt L z m = false → Bst L z (m + 1) o := fun ho => by
      cases o with
      | none => exact step hb ho
      | some b =>
        obtain ⟨h1, h2, h3⟩ := hb
        refine ⟨by omega, h2, fun j hj hjo => ?_⟩
        by_cases e : j = m
        · rw [e, ho] at hjo; cases hjo
        · exact h3 j (by omega) hjo
    cases hf : (rAt L m).2 with
    | false =>
      have ho : okAt L z m = false := by unfold okAt; rw [hf]; rfl
      simp [hf]
      exact ⟨o, keep ho, rfl⟩
    | true =>
      by_cases hs : z ≤ (rAt L m).1
      · have ho : okAt L z m = true := by unfold okAt; rw [hf, decide_eq_true hs]; rfl
        cases o with
        | none =>
          simp [hf, hs, od']
          refine ⟨some m, ⟨by omega, ho, fun j hj hjo => ?_⟩, rfl⟩
          by_cases e : j = m
          · subst e; omega
          · rw [hb j (by omega)] at hjo; cases hjo
        | some b =>
          obtain ⟨h1, h2, h3⟩ := hb
          have hbl : b < L.length := by omega
          have hg := rAt_get hbl
          by_cases hlt : (rAt L m).1 < (rAt L b).1
          · simp [hf, hs, od', hg, hlt]
            refine ⟨some m, ⟨by omega, ho, fun j hj hjo => ?_⟩, rfl⟩
            by_cases e : j = m
            · subst e; omega
            · have := h3 j (by omega) hjo
              unfold sz at *
              omega
          · simp [hf, hs, od', hg, hlt]
            refine ⟨some b, ⟨by omega, h2, fun j hj hjo => ?_⟩, rfl⟩
            by_cases e : j = m
            · subst e; unfold sz; omega
            · exact h3 j (by omega) hjo
      · have ho : okAt L z m = false := by unfold okAt; rw [hf, decide_eq_false hs]; rfl
        simp [hf, hs]
        exact ⟨o, keep ho, rfl⟩
  · rintro ρ ⟨o, hb, x, y, w, rfl⟩
    simp
    have := hQ [some (0, rmD L), some (0, D.int ↑z), some (0, od' o), x, y, w]
    rw [bst_eq hb] at this
    exact this
/-! taken -/
def tak (L : List (Nat × Bool)) (p z : Nat) : List (Nat × Bool) := L.take p ++ (if sz L p = z then [(z, false)] else [(z, false), (sz L p - z, true)]) ++ L.drop (p + 1)
theorem tak_len {L : List (Nat × Bool)} {p z : Nat} (hp : p < L.length) : (tak L p z).length ≤ L.length + 1 := by
  unfold tak
  split <;> simp <;> omega
theorem taken_run (L : List (Nat × Bool)) (p z : Nat) (hp : p < L.length) (hz : z ≤ sz L p) (hl : L.length ≤ 1000) : K35.m_room_taken [rmD L, .int (p : Int), .int (z : Int)] = some (0, rmD (tak L p z)) := by
  refine def_of0 rfl (rm_nob _) fun Q hQ => ?_
  unfold K35.b_room_taken
  have hq := hQ
  unfold tak rmD at hq
  have hg := rAt_get hp
  have hp1 : (p : Int) + 1 = ((p + 1 : Nat) : Int) := by omega
  have hg' : L[p] = rAt L p := by rw [List.getElem?_eq_getElem hp] at hg; exact Option.some.inj hg
  have b1 : min p L.length + 1 ≤ 1000000 := by omega
  have b2 : min p L.length + 1 + (L.length - (p + 1)) ≤ 1000000 := by omega
  have b3 : min p L.length + 2 ≤ 1000000 := by omega
  have b4 : min p L.length + 2 + (L.length - (p + 1)) ≤ 1000000 := by omega
  unfold sz at *
  by_cases e : (rAt L p).1 = z
  · have e' : ((rAt L p).1 : Int) - (z : Int) = 0 := by omega
    simp [e, rm] at hq
    simp -implicitDefEqProofs [hg, hg', e', hp1, -Int.natCast_add, b1, b2, b3, b4]
    exact hq _
  · have e0 : ¬ ((rAt L p).1 : Int) - (z : Int) = 0 := by omega
    have e' : ((rAt L p).1 : Int) - (z : Int) = (((rAt L p).1 - z : Nat) : Int) := by omega
    rw [e'] at e0
    have en : ¬ (rAt L p).1 - z = 0 := by omega
    simp [e, rm] at hq
    simp -implicitDefEqProofs [hg, hg', e', e0, en, hp1, -Int.natCast_add, b1, b2, b3, b4]
    exact hq _
end HP
set_option Elab.async false
set_option linter.all false
set_option maxRecDepth 100000
/-! J10: the law of the rooms -/
namespace HP
open PySem L2 Pv
def szC (h : Hx) (i : Nat) : Nat := match h.c i with
  | none => 1
  | some fs => fs.length
theorem like_rm (L : List (Nat × Bool)) (hl : L.length ≤ 1000) : K36.m_law_like [rmD L, rmD L] = some (0, .bl true) := like (likeOk_all (by simpa using hl) fun d hd => by
  obtain ⟨p, _, rfl⟩ := List.mem_map.mp hd
  rfl)
theorem like_od (o : Option Nat) : K36.m_law_like [od' o, od' o] = some (0, .bl true) := like (by cases o <;> rfl)
theorem rooms_law (r : Nat → Nat) {h : Hx} (ok : Ok h) (hn : h.n ≤ 10) : K35.m_law_rooms [rowD 74 r, h.d] = some (0, .bl true) := by
  refine def_of0 rfl rfl fun Q hQ => ?_
  unfold K35.b_law_rooms
  have m1 : K35.m_law_met [h.cds, .tup (h.rs.map Fd.d)] = some (1, .lst (h.met.map IN)) := law_met_run ok
  have eql : K35.m_law_like = K36.m_law_like := rfl
  have hn1 : h.n ≤ 1000000 := by omega
  have hn2 : h.n ≤ 1000000000 := by omega
  have h71 := ix_rowL (m := 74) (k := 0) (l := 0) (r := r) 71 (by omega) (by omega)
  simp [m1]
  refine wp_idx h.n (fun m ρ => ∃ x, ρ = [some (0, rowD 74 r), some (0, h.d), some (1, .lst (h.met.map IN)), some (1, .lst (((List.range m).map (szC h)).map IN)), x, none, none, none, none, none, none, none, none, none, none, none, none]) rfl ⟨none, by simp⟩ ?_ ?_
  · rintro m ρ hm ⟨x, rfl⟩
    have hm' : m < 1000000 := by omega
    have es : ((List.range (m + 1)).map (szC h)).map IN = ((List.range m).map (szC h)).map IN ++ [.int (szC h m : Int)] := by rw [List.range_succ]; simp
    rw [es]
    unfold szC
    cases hc : h.c m with
    | none => simp -implicitDefEqProofs [Pv.big, hm']
    | some fs => simp -implicitDefEqProofs [Pv.big, hm']
  · rintro ρ ⟨x, rfl⟩
    obtain ⟨S, hS⟩ : ∃ S, S = (List.range h.n).map (szC h) := ⟨_, rfl⟩
    have hSl : S.length = h.n := by rw [hS]; simp
    rw [← hS]
    have e5 : ∀ v0 v1 v2 v3 v4 v5 v6 v7 v8 v9 v10 v11 v13 v14 v15 v16 : Option W, compL (.nm 12) bYes (pTup (aCons (pVar 12) (aCons (pC (.bl false)) aNil))) 0 [v0, v1, v2, v3, v4, v5, v6, v7, v8, v9, v10, v11, none, v13, v14, v15, v16] (S.map IN) = some ((S.map fun s => (s, false)).map rm) := fun v0 v1 v2 v3 v4 v5 v6 v7 v8 v9 v10 v11 v13 v14 v15 v16 => by
      rw [List.map_map]
      exact comp_map (fun s : Nat => rm (s, false)) fun a ha => by unfold rm; simp
    have e6 : ∀ v0 v1 v3 v4 v5 v6 v7 v8 v10 v11 v12 v13 v14 v15 v16 : Option W, compL (.nm 9) (bVal (pOp2 (gIn true) (pBv 9) (pBv 2))) (pVar 9) 0 [v0, v1, some (1, .lst (h.met.map IN)), v3, v4, v5, v6, v7, v8, none, v10, v11, v12, v13, v14, v15, v16] ((List.range h.n).map IN) = some (((List.range h.n).filter fun i => !decide (i ∈ h.met)).map IN) := fun v0 v1 v3 v4 v5 v6 v7 v8 v10 v11 v12 v13 v14 v15 v16 => by
      refine comp_fm (fun i => !decide (i ∈ h.met)) IN fun i hi => ?_
      by_cases q : i ∈ h.met <;> simp [q]
    obtain ⟨G, hG⟩ : ∃ G, G = (List.range h.n).filter fun i => !decide (i ∈ h.met) := ⟨_, rfl⟩
    have hGl : G.length ≤ 10 := by
      have := List.length_filter_le (fun i => !decide (i ∈ h.met)) (List.range h.n)
      rw [hG]; simp at this; omega
    rw [← hG] at e6
    have eb : (r 71 : Int) % ((G.length : Int) + 1) = ((r 71 % (G.length + 1) : Nat) : Int) := by simp
    generalize r 71 % (G.length + 1) = b at eb
    have hL1 : G.length - b + min b G.length ≤ 1000000 := by omega
    obtain ⟨L0, hL0⟩ : ∃ L0, L0 = S.map fun s => (s, false) := ⟨_, rfl⟩
    have hL0l : L0.length = h.n := by rw [hL0]; simp [hSl]
    rw [← hL0] at e5
    obtain ⟨G2, hG2⟩ : ∃ G2, G2 = G.drop b ++ G.take b := ⟨_, rfl⟩
    have hG2l : G2.length ≤ 10 := by rw [hG2]; simp; omega
    have hG2m : List.drop b (List.map IN G) ++ List.take b (List.map IN G) = G2.map IN := by rw [hG2]; simp
    have hrm : ∀ L : List (Nat × Bool), D.tup (L.map rm) = rmD L := fun L => rfl
    simp -implicitDefEqProofs [e5, e6, hn1, hn2, hSl, h71, eb, cut_take, cut_drop, hL1, hG2m, hrm]
    refine wp_for (inj := IN) G2 (fun pre ρ => ∃ L w8 w9 w10, L.length ≤ h.n + pre.length ∧ lvl0 (some w9) = true ∧ ρ = [some (0, rowD 74 r), some (0, h.d), some (1, .lst (h.met.map IN)), some (1, .lst (S.map IN)), x, some (0, rmD L), some (1, .lst (G.map IN)), some (0, .int (b : Int)), w8, w9, w10, none, none, none, none, none, none]) rfl ⟨L0, none, none, none, by omega, rfl, rfl⟩ ?_ ?_
    · rintro pre a post ρ hp ⟨L, w8, w9, w10, hle, hw9, rfl⟩
      have hpl : pre.length ≤ 10 := by
        have : pre.length ≤ G2.length := by rw [hp]; simp
        omega
      have es : gSum (1, .lst (List.take a (List.map IN S))) = some (0, .int ((((S.take a).sum : Nat) : Int))) := by
        have := sum_ints (fun s : Nat => (s : Int)) (S.take a)
        rw [sum_cast (fun s : Nat => s), List.map_id'] at this
        rw [← this, ← List.map_take]; rfl
      obtain ⟨p, hp1, hp2⟩ := place_run L (S.take a).sum
      have g1 := law_given_run L p hp1 (by omega)
      have g2 := room_given_run L p hp1 (by omega)
      have hgl := giv_len L p hp1
      have lk := like_rm (giv L p) (by omega)
      simp -implicitDefEqProofs [cut_take, es, hp2, g1, g2, eql, lk]
      exact ⟨giv L p, by omega, _, _, rfl, rfl, rfl, rfl⟩
    · rintro ρ ⟨L, w8, w9, w10, hle, hw9, rfl⟩
      have hLl : L.length ≤ 20 := by omega
      clear hG2m hG2l hG2 hL0l hL0 e5 e6 hL1 hle
      have b1 : L.length ≤ 1000000 := by omega
      have e11 : ∀ v0 v1 v2 v3 v4 v6 v7 v8 v9 v10 v13 v14 v15 : Option W, compL (.tp [.nm 12, .nm 16]) (bTru (pBv 16)) (pVar 12) 0 [v0, v1, v2, v3, v4, some (0, rmD L), v6, v7, v8, v9, v10, none, none, v13, v14, v15, none] (L.map rm) = some ((frees L).map fun p => .int (p.1 : Int)) := fun v0 v1 v2 v3 v4 v6 v7 v8 v9 v10 v13 v14 v15 => by
        refine comp_fm (fun p : Nat × Bool => p.2) (fun p : Nat × Bool => .int (p.1 : Int)) ?_
        rintro ⟨s, f⟩ hp
        unfold rm
        cases f <;> simp
      have hfl : (frees L).length ≤ 20 := by
        have := List.length_filter_le (fun p : Nat × Bool => p.2) L
        unfold frees; omega
      have lost := lost_run L (by omega)
      have mx := max_frees (frees L)
      have sm := sum_ints (fun p : Nat × Bool => (p.1 : Int)) (frees L)
      have lki : ∀ i : Int, K36.m_law_like [.int i, .int i] = some (0, .bl true) := fun i => like rfl
      have b2 : (frees L).length + 1 ≤ 1000000 := by omega
      simp -implicitDefEqProofs [e11, lost, mx, sm, eql, lki, b1, b2]
      refine wp_idx (inj := fun i => .int ((i + 1 : Nat) : Int)) 6 (fun m ρ => ∃ w9 w12 w13 w14 w15, lvl0 (some w9) = true ∧ ρ = [some (0, rowD 74 r), some (0, h.d), some (1, .lst (h.met.map IN)), some (1, .lst (S.map IN)), x, some (0, rmD L), some (1, .lst (G.map IN)), some (0, .int (b : Int)), w8, w9, w10, some (1, .lst ((frees L).map fun p : Nat × Bool => .int (p.1 : Int))), w12, w13, w14, w15, none]) (by rw [rngD_map]; exact List.map_congr_left fun i _ => by congr 1; omega) ⟨w9, none, none, none, none, hw9, rfl⟩ ?_ ?_
      · rintro m ρ hm ⟨w9, w12, w13, w14, w15, hw9, rfl⟩
        generalize m + 1 = z
        have e13 : ∀ v0 v1 v2 v3 v4 v6 v7 v8 v10 v11 v13 v14 v15 v16 : Option W, compL (.nm 9) (bAnd (bVal (pOp2 gIx (pOp2 gIx (pBv 5) (pBv 9)) (pC (.int 1)))) (bVal (pOp2 (gCmpI fun i j => decide (j ≤ i)) (pOp2 gIx (pOp2 gIx (pBv 5) (pBv 9)) (pC (.int 0))) (pBv 12)))) (pVar 9) 0 [v0, v1, v2, v3, v4, some (0, rmD L), v6, v7, v8, none, v10, v11, some (0, .int (z : Int)), v13, v14, v15, v16] ((List.range L.length).map IN) = some ((places L z).map IN) := fun v0 v1 v2 v3 v4 v6 v7 v8 v10 v11 v13 v14 v15 v16 => by
          refine comp_fm (fun i => okAt L z i) IN fun i hi => ?_
          have hi' := List.mem_range.mp hi
          have hg := rAt_get hi'
          have hg' : L[i] = rAt L i := by rw [List.getElem?_eq_getElem hi'] at hg; exact Option.some.inj hg
          unfold okAt
          cases hf : (rAt L i).2 <;> by_cases hs : z ≤ (rAt L i).1 <;> simp [hi', hg', hf, hs]
        have e14 : ∀ v0 v1 v2 v3 v4 v6 v7 v8 v10 v11 v12 v13 v14 v15 v16 : Option W, compL (.nm 9) bYes (pTup (aCons (pOp2 gIx (pOp2 gIx (pBv 5) (pBv 9)) (pC (.int 0))) (aCons (pVar 9) aNil))) 0 [v0, v1, v2, v3, v4, some (0, rmD L), v6, v7, v8, none, v10, v11, v12, v13, v14, v15, v16] ((places L z).map IN) = some ((bests L z).map Pv.prD) := fun v0 v1 v2 v3 v4 v6 v7 v8 v10 v11 v12 v13 v14 v15 v16 => by
          unfold bests
          rw [List.map_map]
          refine comp_map (fun i => Pv.prD (sz L i, i)) fun i hi => ?_
          have hi' := (places_mem.mp hi).1
          have hg := rAt_get hi'
          have hg' : L[i] = rAt L i := by rw [List.getElem?_eq_getElem hi'] at hg; exact Option.some.inj hg
          simp [hi', hg', Pv.prD, sz]
        have hpl : (places L z).length ≤ 20 := by
          have := List.length_filter_le (fun i => okAt L z i) (List.range L.length)
          unfold places; simp at this; omega
        have hbl : (bests L z).length ≤ 20 := by unfold bests; simpa using hpl
        have r1 := first_run L z (by omega)
        have r2 := best_run L z (by omega)
        have r3 := sorted_pr (k := 1) (xs := bests L z) (by omega) (by omega)
        have f1 : ∀ k, gIx (1, .lst ((places L z).map IN ++ [.non])) (k, .int 0) = some (0, od' (places L z).head?) := fun k => by
          cases places L z with
          | nil => rfl
          | cons p r => simp [od']
        have k1 := like_od (places L z).head?
        have k2 := like_od (bestO L z)
        obtain ⟨bb, f2, f3⟩ : ∃ bb, (∀ k, gIx (1, .lst (((bests L z).mergeSort lePr).map Pv.prD ++ [D.tup [.int 0, .non]])) (k, .int 0) = some (0, bb)) ∧ ∀ k l, gIx (k, bb) (l, .int 1) = some (0, od' (bestO L z)) := by
          unfold bestO
          cases (bests L z).mergeSort lePr with
          | nil => exact ⟨.tup [.int 0, .non], fun k => rfl, fun k l => rfl⟩
          | cons p r => exact ⟨Pv.prD p, fun k => by simp, fun k l => by simp [Pv.prD, od']⟩
        have b3 : (places L z).length ≤ 1000000 := by omega
        have b4 : (places L z).length + 1 ≤ 1000000 := by omega
        have b5 : (bests L z).length + 1 ≤ 1000000 := by omega
        have b6 : L.length ≤ 1000000000 := by omega
        simp -implicitDefEqProofs [hw9, e13, e14, r1, r2, r3, f1, f2, f3, k1, k2, eql, b1, b3, b4, b5, b6]
        refine wp_for (inj := IN) (places L z) (fun pre ρ => ∃ w9 w15, lvl0 (some w9) = true ∧ ρ = [some (0, rowD 74 r), some (0, h.d), some (1, .lst (h.met.map IN)), some (1, .lst (S.map IN)), x, some (0, rmD L), some (1, .lst (G.map IN)), some (0, .int (b : Int)), w8, w9, w10, some (1, .lst ((frees L).map fun p : Nat × Bool => .int (p.1 : Int))), some (0, .int (z : Int)), some (0, .lst ((places L z).map IN)), some (1, .lst ((bests L z).map Pv.prD)), w15, none]) rfl ⟨w9, w15, hw9, rfl⟩ ?_ ?_
        · rintro pre a post ρ hp ⟨w9, w15, hw9, rfl⟩
          have ha : a ∈ places L z := by rw [hp]; simp
          obtain ⟨hi', ho⟩ := places_mem.mp ha
          have hg := rAt_get hi'
          have hg' : L[a] = rAt L a := by rw [List.getElem?_eq_getElem hi'] at hg; exact Option.some.inj hg
          have hz : z ≤ (rAt L a).1 := by
            unfold okAt at ho
            rw [Bool.and_eq_true] at ho
            exact of_decide_eq_true ho.2
          have tk := taken_run L a z hi' hz (by omega)
          have tl := tak_len (z := z) hi'
          have lk := like_rm (tak L a z) (by omega)
          have hp1 : (a : Int) + 1 = ((a + 1 : Nat) : Int) := by omega
          have c1 : ∀ u v : D, cutL [u, v] none (some 1) = [u] := fun u v => rfl
          have c2 : ∀ u v : D, cutL [u, v] none (some 2) = [u, v] := fun u v => rfl
          have b7 : min a L.length + 1 ≤ 1000000 := by omega
          have b8 : min a L.length + 1 + (L.length - (a + 1)) ≤ 1000000 := by omega
          have b9 : min a L.length + 2 ≤ 1000000 := by omega
          have b0 : min a L.length + 2 + (L.length - (a + 1)) ≤ 1000000 := by omega
          by_cases e : (rAt L a).1 = z
          · have ev : tak L a z = L.take a ++ [(z, false)] ++ L.drop (a + 1) := by unfold tak sz; rw [if_pos e]
            have lk' : K36.m_law_like [rmD (tak L a z), .tup (List.take a (List.map rm L) ++ .tup [.int (z : Int), .bl false] :: List.drop (a + 1) (List.map rm L))] = some (0, .bl true) := by
              rw [← lk]
              congr 2
              rw [ev]
              unfold rmD
              simp [rm]
            simp -implicitDefEqProofs [hi', hg', e, c1, hp1, -Int.natCast_add, b7, b8, tk, lk']
            done
          · have lt : z < (rAt L a).1 := by omega
            have e' : ((rAt L a).1 : Int) - (z : Int) = (((rAt L a).1 - z : Nat) : Int) := by omega
            have ev : tak L a z = L.take a ++ [(z, false), ((rAt L a).1 - z, true)] ++ L.drop (a + 1) := by unfold tak sz; rw [if_neg e]
            have lk' : K36.m_law_like [rmD (tak L a z), .tup (List.take a (List.map rm L) ++ .tup [.int (z : Int), .bl false] :: .tup [.int (((rAt L a).1 - z : Nat) : Int), .bl true] :: List.drop (a + 1) (List.map rm L))] = some (0, .bl true) := by
              rw [← lk]
              congr 2
              rw [ev]
              unfold rmD
              simp [rm]
            simp -implicitDefEqProofs [hi', hg', lt, e', c2, hp1, -Int.natCast_add, b9, b0, tk, lk']
            done
        · rintro ρ ⟨w9, w15, hw9, rfl⟩
          exact ⟨w9, hw9, _, _, _, _, rfl⟩
      · rintro ρ ⟨w9, w12, w13, w14, w15, hw9, rfl⟩
        simp
        exact hQ _
end HP
set_option Elab.async false
set_option linter.all false
set_option maxRecDepth 100000
/-! J11: the law -/
namespace HP
open PySem L2 Pv
theorem law_k35_true (ns : List Int) : K35.m_law [.scr ns] = some (0, .bl true) := by
  refine def_of0 rfl rfl fun Q hQ => ?_
  unfold K35.b_law
  obtain ⟨r, hr⟩ := CL.row ns 74 (by omega)
  have hr' : K35.m_law_row [.scr ns, .int 74] = some (1, rowD 74 r) := hr
  have h72 := ix_rowL (m := 74) (k := 1) (l := 0) (r := r) 72 (by omega) (by omega)
  have e72 : 2 + (r 72 : Int) % 9 = ((2 + r 72 % 9 : Nat) : Int) := by simp
  have hh : K35.m_law_heap [rowD 74 r, .int ((2 + r 72 % 9 : Nat) : Int)] = some (0, (heap0 r (2 + r 72 % 9)).d) := law_heap_run r (n := 2 + r 72 % 9) (by omega)
  have ok := heap0_ok (r := r) (n := 2 + r 72 % 9) (by omega)
  have hn : (heap0 r (2 + r 72 % 9)).n = 2 + r 72 % 9 := rfl
  have h10 : 2 + r 72 % 9 ≤ 10 := by omega
  have h0 : 0 < 2 + r 72 % 9 := by omega
  generalize heap0 r (2 + r 72 % 9) = h at hh ok hn
  generalize 2 + r 72 % 9 = n0 at e72 hh hn h10 h0
  subst hn
  have j := judged_run ok h10 h0
  have s := swept_law r ok h0
  have m := rooms_law r ok h10
  simp -implicitDefEqProofs [hr', h72, e72, hh, j, s, m]
  exact hQ _
end HP
set_option Elab.async false
set_option linter.all false
set_option maxRecDepth 100000
/-! printed by gen.py: the defs of the law as data, and that they are so -/
namespace K35
open PySem PySem.Spec PyProof.Rows L2 Pv
def topS (i : Nat) : Stmt := PySem.Challenge.pw_tonguesalike_k35_whole_swept_and_given.main.body.getD i (.Pass ⟨0, 0, 0, 0⟩)
abbrev s_law_mixed : Stmt := topS 27
abbrev s_law_row : Stmt := topS 28
abbrev s_law_field : Stmt := topS 31
abbrev s_law_heap : Stmt := topS 32
abbrev s_law_is_int : Stmt := topS 29
abbrev s_law_like : Stmt := topS 30
abbrev s_is_number : Stmt := topS 1
abbrev s_is_link : Stmt := topS 6
abbrev s_is_field : Stmt := topS 7
abbrev s_is_cell : Stmt := topS 8
abbrev s_is_heap : Stmt := topS 9
abbrev s_law_judged : Stmt := topS 38
abbrev s_law_held : Stmt := topS 33
abbrev s_law_met : Stmt := topS 34
abbrev s_is_address : Stmt := topS 10
abbrev s_moved : Stmt := topS 15
abbrev s_held : Stmt := topS 11
abbrev s_met_cells : Stmt := topS 12
abbrev s_reached_cells : Stmt := topS 13
abbrev s_slid_heap : Stmt := topS 17
abbrev s_law_turned : Stmt := topS 37
abbrev s_law_moved : Stmt := topS 35
abbrev s_law_bare : Stmt := topS 36
abbrev s_same_heap : Stmt := topS 19
abbrev s_marked_swept : Stmt := topS 14
abbrev s_copied_heap : Stmt := topS 16
abbrev s_shape_of : Stmt := topS 18
abbrev s_law_swept : Stmt := topS 39
abbrev s_law_place : Stmt := topS 41
abbrev s_room_given : Stmt := topS 24
abbrev s_law_given : Stmt := topS 40
abbrev s_lost_room : Stmt := topS 25
abbrev s_first_room : Stmt := topS 21
abbrev s_best_room : Stmt := topS 22
abbrev s_room_taken : Stmt := topS 23
abbrev s_law_rooms : Stmt := topS 42
abbrev s_law : Stmt := topS 43
theorem sc_law_mixed : FnScope ["script", "k", "cell", "first", "second", "third"] ["script", "k"] (defScope s_law_mixed) := ⟨rfl, rfl, rfl, by decide +kernel, rfl, by decide +kernel, by decide +kernel⟩
theorem sc_law_row : FnScope ["script", "many", "big", "row", "k"] ["script", "many"] (defScope s_law_row) := ⟨rfl, rfl, rfl, by decide +kernel, rfl, by decide +kernel, by decide +kernel⟩
theorem sc_law_field : FnScope ["cell", "live", "part"] ["cell", "live"] (defScope s_law_field) := ⟨rfl, rfl, rfl, by decide +kernel, rfl, by decide +kernel, by decide +kernel⟩
theorem sc_law_heap : FnScope ["row", "count", "shape", "live", "cells", "k", "fields", "roots", "part", "j"] ["row", "count"] (defScope s_law_heap) := ⟨rfl, rfl, rfl, by decide +kernel, rfl, by decide +kernel, by decide +kernel⟩
theorem sc_law_is_int : FnScope ["value"] ["value"] (defScope s_law_is_int) := ⟨rfl, rfl, rfl, by decide +kernel, rfl, by decide +kernel, by decide +kernel⟩
theorem sc_law_like : FnScope ["value", "due", "k"] ["value", "due"] (defScope s_law_like) := ⟨rfl, rfl, rfl, by decide +kernel, rfl, by decide +kernel, by decide +kernel⟩
theorem sc_is_number : FnScope ["worth"] ["worth"] (defScope s_is_number) := ⟨rfl, rfl, rfl, by decide +kernel, rfl, by decide +kernel, by decide +kernel⟩
theorem sc_is_link : FnScope ["cells", "link"] ["cells", "link"] (defScope s_is_link) := ⟨rfl, rfl, rfl, by decide +kernel, rfl, by decide +kernel, by decide +kernel⟩
theorem sc_is_field : FnScope ["cells", "field"] ["cells", "field"] (defScope s_is_field) := ⟨rfl, rfl, rfl, by decide +kernel, rfl, by decide +kernel, by decide +kernel⟩
theorem sc_is_cell : FnScope ["cells", "cell", "field"] ["cells", "cell"] (defScope s_is_cell) := ⟨rfl, rfl, rfl, by decide +kernel, rfl, by decide +kernel, by decide +kernel⟩
theorem sc_is_heap : FnScope ["value", "roots", "cells", "root", "cell"] ["value"] (defScope s_is_heap) := ⟨rfl, rfl, rfl, by decide +kernel, rfl, by decide +kernel, by decide +kernel⟩
theorem sc_law_judged : FnScope ["heap", "roots", "cells", "size", "full", "odd", "bad", "one", "cell"] ["heap"] (defScope s_law_judged) := ⟨rfl, rfl, rfl, by decide +kernel, rfl, by decide +kernel, by decide +kernel⟩
theorem sc_law_held : FnScope ["cell", "field"] ["cell"] (defScope s_law_held) := ⟨rfl, rfl, rfl, by decide +kernel, rfl, by decide +kernel, by decide +kernel⟩
theorem sc_law_met : FnScope ["cells", "starts", "met", "start", "turn", "held"] ["cells", "starts"] (defScope s_law_met) := ⟨rfl, rfl, rfl, by decide +kernel, rfl, by decide +kernel, by decide +kernel⟩
theorem sc_is_address : FnScope ["field"] ["field"] (defScope s_is_address) := ⟨rfl, rfl, rfl, by decide +kernel, rfl, by decide +kernel, by decide +kernel⟩
theorem sc_moved : FnScope ["heap", "order", "roots", "cells", "names", "moved", "name", "address", "field", "root"] ["heap", "order"] (defScope s_moved) := ⟨rfl, rfl, rfl, by decide +kernel, rfl, by decide +kernel, by decide +kernel⟩
theorem sc_held : FnScope ["cell", "field"] ["cell"] (defScope s_held) := ⟨rfl, rfl, rfl, by decide +kernel, rfl, by decide +kernel, by decide +kernel⟩
theorem sc_met_cells : FnScope ["cells", "starts", "shut", "met", "start", "done", "address"] ["cells", "starts", "shut"] (defScope s_met_cells) := ⟨rfl, rfl, rfl, by decide +kernel, rfl, by decide +kernel, by decide +kernel⟩
theorem sc_reached_cells : FnScope ["heap", "roots", "cells"] ["heap"] (defScope s_reached_cells) := ⟨rfl, rfl, rfl, by decide +kernel, rfl, by decide +kernel, by decide +kernel⟩
theorem sc_slid_heap : FnScope ["heap"] ["heap"] (defScope s_slid_heap) := ⟨rfl, rfl, rfl, by decide +kernel, rfl, by decide +kernel, by decide +kernel⟩
theorem sc_law_turned : FnScope ["row", "heap", "count", "by", "cells", "place", "fields", "k", "roots", "root", "live", "at"] ["row", "heap"] (defScope s_law_turned) := ⟨rfl, rfl, rfl, by decide +kernel, rfl, by decide +kernel, by decide +kernel⟩
theorem sc_law_moved : FnScope ["heap", "order", "cells", "place", "fields", "field", "roots", "root"] ["heap", "order"] (defScope s_law_moved) := ⟨rfl, rfl, rfl, by decide +kernel, rfl, by decide +kernel, by decide +kernel⟩
theorem sc_law_bare : FnScope ["heap", "cells", "turn"] ["heap"] (defScope s_law_bare) := ⟨rfl, rfl, rfl, by decide +kernel, rfl, by decide +kernel, by decide +kernel⟩
theorem sc_same_heap : FnScope ["first", "second", "partners", "backward", "waiting", "one", "other", "mine", "theirs"] ["first", "second"] (defScope s_same_heap) := ⟨rfl, rfl, rfl, by decide +kernel, rfl, by decide +kernel, by decide +kernel⟩
theorem sc_marked_swept : FnScope ["heap", "roots", "cells", "met", "address", "cell"] ["heap"] (defScope s_marked_swept) := ⟨rfl, rfl, rfl, by decide +kernel, rfl, by decide +kernel, by decide +kernel⟩
theorem sc_copied_heap : FnScope ["heap", "roots", "cells"] ["heap"] (defScope s_copied_heap) := ⟨rfl, rfl, rfl, by decide +kernel, rfl, by decide +kernel, by decide +kernel⟩
theorem sc_shape_of : FnScope ["heap"] ["heap"] (defScope s_shape_of) := ⟨rfl, rfl, rfl, by decide +kernel, rfl, by decide +kernel, by decide +kernel⟩
theorem sc_law_swept : FnScope ["row", "heap", "met", "copy", "low", "swept", "slid", "other", "alike", "place", "one"] ["row", "heap"] (defScope s_law_swept) := ⟨rfl, rfl, rfl, by decide +kernel, rfl, by decide +kernel, by decide +kernel⟩
theorem sc_law_place : FnScope ["rooms", "begin", "place", "passed", "size", "free"] ["rooms", "begin"] (defScope s_law_place) := ⟨rfl, rfl, rfl, by decide +kernel, rfl, by decide +kernel, by decide +kernel⟩
theorem sc_room_given : FnScope ["rooms", "place", "low", "high", "size", "room"] ["rooms", "place"] (defScope s_room_given) := ⟨rfl, rfl, rfl, by decide +kernel, rfl, by decide +kernel, by decide +kernel⟩
theorem sc_law_given : FnScope ["rooms", "place", "low", "high", "size", "free"] ["rooms", "place"] (defScope s_law_given) := ⟨rfl, rfl, rfl, by decide +kernel, rfl, by decide +kernel, by decide +kernel⟩
theorem sc_lost_room : FnScope ["rooms", "free", "length", "is_free"] ["rooms"] (defScope s_lost_room) := ⟨rfl, rfl, rfl, by decide +kernel, rfl, by decide +kernel, by decide +kernel⟩
theorem sc_first_room : FnScope ["rooms", "size", "place", "length", "is_free"] ["rooms", "size"] (defScope s_first_room) := ⟨rfl, rfl, rfl, by decide +kernel, rfl, by decide +kernel, by decide +kernel⟩
theorem sc_best_room : FnScope ["rooms", "size", "best", "place", "length", "is_free"] ["rooms", "size"] (defScope s_best_room) := ⟨rfl, rfl, rfl, by decide +kernel, rfl, by decide +kernel, by decide +kernel⟩
theorem sc_room_taken : FnScope ["rooms", "place", "size", "rest", "parted"] ["rooms", "place", "size"] (defScope s_room_taken) := ⟨rfl, rfl, rfl, by decide +kernel, rfl, by decide +kernel, by decide +kernel⟩
theorem sc_law_rooms : FnScope ["row", "heap", "met", "sizes", "cell", "rooms", "gone", "by", "address", "place", "found", "free", "size", "places", "best", "taken", "is_free"] ["row", "heap"] (defScope s_law_rooms) := ⟨rfl, rfl, rfl, by decide +kernel, rfl, by decide +kernel, by decide +kernel⟩
theorem sc_law : FnScope ["script", "row", "heap"] ["script"] (defScope s_law) := ⟨rfl, rfl, rfl, by decide +kernel, rfl, by decide +kernel, by decide +kernel⟩
/-- the builtins are their own -/
structure MG (mg : Str → Option Value) : Prop where
  all_ : mg "all" = none
  bool_ : mg "bool" = none
  enumerate_ : mg "enumerate" = none
  int_ : mg "int" = none
  isinstance_ : mg "isinstance" = none
  len_ : mg "len" = none
  list_ : mg "list" = none
  max_ : mg "max" = none
  range_ : mg "range" = none
  sorted_ : mg "sorted" = none
  str_ : mg "str" = none
  sum_ : mg "sum" = none
  tuple_ : mg "tuple" = none
  zip_ : mg "zip" = none
section
variable {P : Program} {w : World} {K : PySem.W.Frag} {mg : Str → Option Value} {base : Heap}
set_option maxHeartbeats 1000000 in
theorem ok_law_mixed {f fd} (F : Fun K "_law_mixed" "_law_mixed" s_law_mixed f fd) (B : MG mg) : FnOk P w K mg base CX0 1 f fd ["script", "k"] (spD K m_law_mixed) :=
  fnM F sc_law_mixed fun cdv A outer s H hr => b_cons (s_asg sc_law_mixed.nd e_int) (b_cons (s_if (t_cmp op_gt g_cmpI (e_len (by rfl) B.len_ (e_bv 0)) e_int) (b_one (s_asg sc_law_mixed.nd (e_ix ix_seq g_ix (e_bv 0) (e_bin op_mod g_mod (e_bv 1) (e_len (by rfl) B.len_ (e_bv 0)))))) b_nil) (b_cons (s_asg sc_law_mixed.nd (e_bin op_mod g_mod (e_intF (by rfl) B.int_ (e_bin op_addA g_add (e_bin op_addA g_add (e_bin op_mul g_mulI (e_bv 2) e_int) (e_bin op_mul g_mulI (e_bv 1) e_int)) e_int)) e_int)) (b_cons (s_asg sc_law_mixed.nd (e_bin op_mod g_mod (e_intF (by rfl) B.int_ (e_bin op_addA g_add (e_bin op_addA g_add (e_bin op_mul g_mulI (e_bv 3) (e_bv 3)) (e_bin op_fdiv g_fdiv (e_bv 3) e_int)) (e_bin op_mul g_mulI (e_bv 1) e_int))) e_int)) (b_cons (s_asg sc_law_mixed.nd (e_bin op_mod g_mod (e_intF (by rfl) B.int_ (e_bin op_addA g_add (e_bin op_addA g_add (e_bin op_mul g_mulI (e_bv 4) (e_bv 4)) (e_bin op_fdiv g_fdiv (e_bv 4) e_int)) e_int)) e_int)) (b_one (s_ret (e_bin op_mod g_mod (e_bin op_fdiv g_fdiv (e_bv 5) e_int) e_int)))))))
set_option maxHeartbeats 1000000 in
theorem ok_law_row {f fd} (F : Fun K "_law_row" "_law_row" s_law_row f fd) (B : MG mg) (F_law_mixed : FnG P w K mg base 1 "_law_mixed" m_law_mixed []) : FnOk P w K mg base CX0 2 f fd ["script", "many"] (spD K m_law_row) :=
  fnM F sc_law_row fun cdv A outer s H hr => b_cons (s_asg sc_law_row.nd e_int) (b_cons (s_if ((w_and (t_cmp op_gt g_cmpI (e_len (by rfl) B.len_ (e_bv 0)) e_int) (w_and1 (t_cmp op_ge g_cmpI (e_ix ix_seq g_ix (e_bv 0) e_int) (e_bin op_pow g_pow e_int e_int)))).t) (b_one (s_asg sc_law_row.nd (e_ix ix_seq g_ix (e_bv 0) e_int))) b_nil) (b_cons (s_asg sc_law_row.nd (e_lst a_nil)) (b_cons (s_for PassesOwn.never rfl (i_range1 (by rfl) B.range_ (e_bv 1)) (g_name sc_law_row.nd) (b_one (s_if (t_cmp op_gt g_cmpI (e_bv 2) e_int) (b_cons (s_app (e_bin op_mod g_mod (e_intF (by rfl) B.int_ (e_bv 2)) e_int)) (b_one (s_asg sc_law_row.nd (e_bin op_fdiv g_fdiv (e_bv 2) e_int)))) (b_one (s_app (e_fn (F_law_mixed.d (by omega)) hr (by rfl) (a_cons (e_bv 0) (a_cons (e_bv 4) a_nil)) pass0)))))) (b_one (s_ret (e_bv 3))))))
set_option maxHeartbeats 1000000 in
theorem ok_law_field {f fd} (F : Fun K "_law_field" "_law_field" s_law_field f fd) (B : MG mg) : FnOk P w K mg base CX0 1 f fd ["cell", "live"] (spD K m_law_field) :=
  fnM F sc_law_field fun cdv A outer s H hr => b_cons (s_asg sc_law_field.nd (e_bin op_mod g_mod (e_intF (by rfl) B.int_ (e_bv 0)) (e_bin op_addA g_add (e_bin op_mul g_mulI e_int (e_len (by rfl) B.len_ (e_bv 1))) e_int))) (b_cons (s_if (t_cmp op_lt g_cmpI (e_bv 2) (e_len (by rfl) B.len_ (e_bv 1))) (b_one (s_ret (e_ix ix_seq g_ix (e_bv 1) (e_bv 2)))) b_nil) (b_cons (s_if (t_cmp (op_eqA hr.units) g_eq (e_bv 2) (e_len (by rfl) B.len_ (e_bv 1))) (b_one (s_ret e_non)) b_nil) (b_one (s_ret (e_tup (a_cons e_str (a_cons (e_bin op_sub g_sub (e_bin op_mod g_mod (e_bin op_fdiv g_fdiv (e_intF (by rfl) B.int_ (e_bv 0)) e_int) e_int) e_int) a_nil)))))))
set_option maxHeartbeats 1000000 in
theorem ok_law_heap {f fd} (F : Fun K "_law_heap" "_law_heap" s_law_heap f fd) (B : MG mg) (F_law_field : FnG P w K mg base 1 "_law_field" m_law_field []) : FnOk P w K mg base CX0 2 f fd ["row", "count"] (spD K m_law_heap) :=
  fnM F sc_law_heap fun cdv A outer s H hr => b_cons (s_asg sc_law_heap.nd (e_lc (j := 0) rfl sc_law_heap.nd (c_range1 (by rfl) B.range_ (e_bv 1)) (blkOk_by (own := [("k", 5)]) rfl) (fun s H C cl fp => g_name sc_law_heap.nd) (fun s H C cl fp => ts_nil) (fun s H C cl fp => e_bin op_mod g_mod (e_intF (by rfl) B.int_ (e_ix ix_seq g_ix (e_bv 0) (e_bv 5))) e_int))) (b_cons (s_asg sc_law_heap.nd (e_lc (j := 0) rfl sc_law_heap.nd (c_range1 (by rfl) B.range_ (e_bv 1)) (blkOk_by (own := [("k", 5)]) rfl) (fun s H C cl fp => g_name sc_law_heap.nd) (fun s H C cl fp => ts_one (t_cmp op_gt g_cmpI (e_ix ix_seq g_ix (e_bv 2) (e_bv 5)) e_int)) (fun s H C cl fp => e_var 5))) (b_cons (s_asg sc_law_heap.nd (e_lst a_nil)) (b_cons (s_for PassesOwn.never rfl (i_range1 (by rfl) B.range_ (e_bv 1)) (g_name sc_law_heap.nd) (b_cons (s_asg sc_law_heap.nd (e_tupOf (by rfl) B.tuple_ (e_lc (j := 0) rfl sc_law_heap.nd (c_range1 (by rfl) B.range_ (e_bin op_addA g_add e_int (e_bin op_mod g_mod (e_ix ix_seq g_ix (e_bv 2) (e_bv 5)) e_int))) (blkOk_by (own := [("j", 9)]) rfl) (fun s H C cl fp => g_name sc_law_heap.nd) (fun s H C cl fp => ts_nil) (fun s H C cl fp => e_fn (F_law_field.d (by omega)) hr (by rfl) (a_cons (e_ix ix_seq g_ix (e_bv 0) (e_bin op_addA g_add (e_bin op_addA g_add e_int (e_bin op_mul g_mulI e_int (e_bv 5))) (e_bv 9))) (a_cons (e_bv 3) a_nil)) pass0)))) (b_one (s_app (e_ix ix_seq g_ix (e_tup (a_cons e_non (a_cons (e_var 6) a_nil))) (e_intF (by rfl) B.int_ (e_cmp op_gt g_cmpI (e_ix ix_seq g_ix (e_bv 2) (e_bv 5)) e_int))))))) (b_cons (s_asg sc_law_heap.nd (e_lst a_nil)) (b_cons (s_for PassesOwn.never rfl (i_range1 (by rfl) B.range_ (e_bin op_mod g_mod (e_intF (by rfl) B.int_ (e_ix ix_seq g_ix (e_bv 0) e_int)) e_int)) (g_name sc_law_heap.nd) (b_cons (s_asg sc_law_heap.nd (e_bin op_mod g_mod (e_intF (by rfl) B.int_ (e_ix ix_seq g_ix (e_bv 0) (e_bin op_addA g_add e_int (e_bv 5)))) (e_bin op_addA g_add (e_len (by rfl) B.len_ (e_bv 3)) e_int))) (b_one (s_app (e_ix ix_seq g_ix (e_bin op_addA g_add (e_bv 3) (e_lst (a_cons e_non (a_cons e_non a_nil)))) (e_bv 8)))))) (b_one (s_ret (e_tup (a_cons (e_tupOf (by rfl) B.tuple_ (e_bv 7)) (a_cons (e_tupOf (by rfl) B.tuple_ (e_bv 4)) a_nil))))))))))
set_option maxHeartbeats 1000000 in
theorem ok_law_is_int {f fd} (F : Fun K "_law_is_int" "_law_is_int" s_law_is_int f fd) (B : MG mg) : FnOk P w K mg base CX0 1 f fd ["value"] (spD K m_law_is_int) :=
  fnM F sc_law_is_int fun cdv A outer s H hr => b_one (s_ret (e_and (e_isi .int (by rfl) B.isinstance_ (by rfl) B.int_ (e_bv 0)) (e_one (e_not (e_isi .bl (by rfl) B.isinstance_ (by rfl) B.bool_ (e_bv 0))))))
set_option maxHeartbeats 1000000 in
theorem ok_law_like {f fd n} {m : List D → Option W} (F : Fun K "_law_like" "_law_like" s_law_like f fd) (B : MG mg) (F_law_is_int : FnG P w K mg base 1 "_law_is_int" m_law_is_int []) (F_law_like : FnG P w K mg base (n + 1) "_law_like" m []) : FnOk P w K mg base CX0 (n + 1 + 1) f fd ["value", "due"] (spD K (mkM 3 2 (b_law_like m))) :=
  fnM F sc_law_like fun cdv A outer s H hr => b_cons (s_if (t_cmp op_isN g_isN (e_bv 1) e_non) (b_one (s_ret (e_cmp op_isN g_isN (e_bv 0) e_non))) b_nil) (b_cons (s_if (t_val (e_isi .bl (by rfl) B.isinstance_ (by rfl) B.bool_ (e_bv 1))) (b_one (s_ret (e_and (e_isi .bl (by rfl) B.isinstance_ (by rfl) B.bool_ (e_bv 0)) (e_one (e_cmp (op_eqA hr.units) g_eq (e_bv 0) (e_bv 1)))))) b_nil) (b_cons (s_if (t_val (e_isi .tup (by rfl) B.isinstance_ (by rfl) B.tuple_ (e_bv 1))) (b_cons (s_if ((w_or (t_not (t_val (e_isi .tup (by rfl) B.isinstance_ (by rfl) B.tuple_ (e_bv 0)))) (w_or1 (t_cmp (op_neA hr.units) g_ne (e_len (by rfl) B.len_ (e_bv 0)) (e_len (by rfl) B.len_ (e_bv 1))))).t) (b_one (s_ret e_bl)) b_nil) (b_one (s_ret (e_all rfl (by rfl) B.all_ (e_lc (j := 0) rfl sc_law_like.nd (c_range1 (by rfl) B.range_ (e_len (by rfl) B.len_ (e_bv 1))) (blkOk_by (own := [("k", 2)]) rfl) (fun s H C cl fp => g_name sc_law_like.nd) (fun s H C cl fp => ts_nil) (fun s H C cl fp => e_fn (F_law_like.d (by omega)) hr (by rfl) (a_cons (e_ix ix_seq g_ix (e_bv 0) (e_bv 2)) (a_cons (e_ix ix_seq g_ix (e_bv 1) (e_bv 2)) a_nil)) pass0)))))) b_nil) (b_cons (s_if (t_val (e_isi .str (by rfl) B.isinstance_ (by rfl) B.str_ (e_bv 1))) (b_one (s_ret (e_and (e_isi .str (by rfl) B.isinstance_ (by rfl) B.str_ (e_bv 0)) (e_one (e_cmp (op_eqA hr.units) g_eq (e_bv 0) (e_bv 1)))))) b_nil) (b_one (s_ret (e_and (e_fn (F_law_is_int.d (by omega)) hr (by rfl) (a_cons (e_bv 0) a_nil) pass0) (e_one (e_cmp (op_eqA hr.units) g_eq (e_bv 0) (e_bv 1)))))))))
theorem okr_law_like {f fd} (F : Fun K "_law_like" "_law_like" s_law_like f fd) (B : MG mg) (F_law_is_int : FnG P w K mg base 1 "_law_is_int" m_law_is_int []) (hm : mg "_law_like" = some (.ref f)) (hb : Binds K fd ["value", "due"] []) : ∀ n, FnOk P w K mg base CX0 (n + 1) f fd ["value", "due"] (spD K (r_law_like n))
  | 0 => F.ok sc_law_like (fun vs H Q E ⟨_, _, _, h, _⟩ => by cases h) (fun cdv A outer s H vs Q E hr ⟨_, _, _, h, _⟩ => by cases h)
  | n + 1 => by
    have h := ok_law_like (n := n) F B F_law_is_int ⟨⟨f, fd, _, [], [], okr_law_like F B F_law_is_int hm hb n, hm, F.kp, hb, .nil, fun _ => rfl⟩, fun ds u q => by
      cases n with
      | zero => cases q
      | succ n => exact mkM_cl ds u q⟩
    have e : n + 1 + 1 = n + 1 + 1 := by omega
    rw [e]; exact h
set_option maxHeartbeats 1000000 in
theorem ok_is_number {f fd} (F : Fun K "is_number" "is_number" s_is_number f fd) (B : MG mg) : FnOk P w K mg base CX0 1 f fd ["worth"] (spD K m_is_number) :=
  fnM F sc_is_number fun cdv A outer s H hr => b_one (s_ret (e_and (e_isi .int (by rfl) B.isinstance_ (by rfl) B.int_ (e_bv 0)) (e_one (e_not (e_isi .bl (by rfl) B.isinstance_ (by rfl) B.bool_ (e_bv 0))))))
set_option maxHeartbeats 1000000 in
theorem ok_is_link {f fd} (F : Fun K "_is_link" "_is_link" s_is_link f fd) (B : MG mg) (F_is_number : FnG P w K mg base 1 "is_number" m_is_number []) : FnOk P w K mg base CX0 2 f fd ["cells", "link"] (spD K m_is_link) :=
  fnM F sc_is_link fun cdv A outer s H hr => b_cons (s_if (t_cmp op_isN g_isN (e_bv 1) e_non) (b_one (s_ret e_bl)) b_nil) (b_one (s_ret (e_and (e_fn (F_is_number.d (by omega)) hr (by rfl) (a_cons (e_bv 1) a_nil) pass0) (e_and (e_chain op_le g_cmpI op_lt g_cmpI e_int (e_bv 1) (e_len (by rfl) B.len_ (e_bv 0))) (e_one (e_cmp op_notN g_notN (e_ix ix_seq g_ix (e_bv 0) (e_bv 1)) e_non))))))
set_option maxHeartbeats 1000000 in
theorem ok_is_field {f fd} (F : Fun K "_is_field" "_is_field" s_is_field f fd) (B : MG mg) (F_is_link : FnG P w K mg base 2 "_is_link" m_is_link []) (F_is_number : FnG P w K mg base 1 "is_number" m_is_number []) : FnOk P w K mg base CX0 3 f fd ["cells", "field"] (spD K m_is_field) :=
  fnM F sc_is_field fun cdv A outer s H hr => b_cons (s_if (t_val (e_isi .tup (by rfl) B.isinstance_ (by rfl) B.tuple_ (e_bv 1))) (b_one (s_ret (e_and (e_cmp (op_eqA hr.units) g_eq (e_len (by rfl) B.len_ (e_bv 1)) e_int) (e_and (e_cmp (op_eqA hr.units) g_eq (e_ix ix_seq g_ix (e_bv 1) e_int) e_str) (e_one (e_fn (F_is_number.d (by omega)) hr (by rfl) (a_cons (e_ix ix_seq g_ix (e_bv 1) e_int) a_nil) pass0)))))) b_nil) (b_one (s_ret (e_fn (F_is_link.d (by omega)) hr (by rfl) (a_cons (e_bv 0) (a_cons (e_bv 1) a_nil)) pass0)))
set_option maxHeartbeats 1000000 in
theorem ok_is_cell {f fd} (F : Fun K "_is_cell" "_is_cell" s_is_cell f fd) (B : MG mg) (F_is_field : FnG P w K mg base 3 "_is_field" m_is_field []) (I_MOST_FIELDS : ∃ t, mg "MOST_FIELDS" = some (.int 4 t)) : FnOk P w K mg base CX0 4 f fd ["cells", "cell"] (spD K m_is_cell) :=
  fnM F sc_is_cell fun cdv A outer s H hr => b_cons (s_if (t_cmp op_isN g_isN (e_bv 1) e_non) (b_one (s_ret e_bl)) b_nil) (b_cons (s_if ((w_or (t_not (t_val (e_isi .tup (by rfl) B.isinstance_ (by rfl) B.tuple_ (e_bv 1)))) (w_or1 (t_not (t_chain op_le g_cmpI op_le g_cmpI e_int (e_len (by rfl) B.len_ (e_bv 1)) (e_gint (by rfl) I_MOST_FIELDS))))).t) (b_one (s_ret e_bl)) b_nil) (b_one (s_ret (e_all rfl (by rfl) B.all_ (e_lc (j := 0) rfl sc_is_cell.nd (c_seq (e_var 1)) (blkOk_by (own := [("field", 2)]) rfl) (fun s H C cl fp => g_name sc_is_cell.nd) (fun s H C cl fp => ts_nil) (fun s H C cl fp => e_fn (F_is_field.d (by omega)) hr (by rfl) (a_cons (e_bv 0) (a_cons (e_bv 2) a_nil)) pass0))))))
set_option maxHeartbeats 1000000 in
theorem ok_is_heap {f fd} (F : Fun K "is_heap" "is_heap" s_is_heap f fd) (B : MG mg) (F_is_cell : FnG P w K mg base 4 "_is_cell" m_is_cell []) (F_is_link : FnG P w K mg base 2 "_is_link" m_is_link []) (I_MOST_ROOTS : ∃ t, mg "MOST_ROOTS" = some (.int 4 t)) (I_MOST_CELLS : ∃ t, mg "MOST_CELLS" = some (.int 12 t)) : FnOk P w K mg base CX0 5 f fd ["value"] (spD K m_is_heap) :=
  fnM F sc_is_heap fun cdv A outer s H hr => b_cons (s_if ((w_or (t_not (t_val (e_isi .tup (by rfl) B.isinstance_ (by rfl) B.tuple_ (e_bv 0)))) (w_or1 (t_cmp (op_neA hr.units) g_ne (e_len (by rfl) B.len_ (e_bv 0)) e_int))).t) (b_one (s_ret e_bl)) b_nil) (b_cons (s_asgT (e_bv 0) (g_tup rfl (gs_cons (g_name sc_is_heap.nd) (gs_cons (g_name sc_is_heap.nd) gs_nil)))) (b_cons (s_if ((w_or (t_not (t_val (e_isi .tup (by rfl) B.isinstance_ (by rfl) B.tuple_ (e_bv 1)))) (w_or1 (t_cmp op_gt g_cmpI (e_len (by rfl) B.len_ (e_bv 1)) (e_gint (by rfl) I_MOST_ROOTS)))).t) (b_one (s_ret e_bl)) b_nil) (b_cons (s_if ((w_or (t_not (t_val (e_isi .tup (by rfl) B.isinstance_ (by rfl) B.tuple_ (e_bv 2)))) (w_or1 (t_cmp op_gt g_cmpI (e_len (by rfl) B.len_ (e_bv 2)) (e_gint (by rfl) I_MOST_CELLS)))).t) (b_one (s_ret e_bl)) b_nil) (b_cons (s_if (t_not (t_val (e_all rfl (by rfl) B.all_ (e_lc (j := 0) rfl sc_is_heap.nd (c_seq (e_var 1)) (blkOk_by (own := [("root", 3)]) rfl) (fun s H C cl fp => g_name sc_is_heap.nd) (fun s H C cl fp => ts_nil) (fun s H C cl fp => e_fn (F_is_link.d (by omega)) hr (by rfl) (a_cons (e_bv 2) (a_cons (e_bv 3) a_nil)) pass0))))) (b_one (s_ret e_bl)) b_nil) (b_one (s_ret (e_all rfl (by rfl) B.all_ (e_lc (j := 0) rfl sc_is_heap.nd (c_seq (e_var 2)) (blkOk_by (own := [("cell", 4)]) rfl) (fun s H C cl fp => g_name sc_is_heap.nd) (fun s H C cl fp => ts_nil) (fun s H C cl fp => e_fn (F_is_cell.d (by omega)) hr (by rfl) (a_cons (e_bv 2) (a_cons (e_bv 4) a_nil)) pass0)))))))))
set_option maxHeartbeats 1000000 in
theorem ok_law_judged {f fd} (F : Fun K "_law_judged" "_law_judged" s_law_judged f fd) (B : MG mg) (F_law_like : FnG P w K mg base 7 "_law_like" m_law_like []) (F_is_heap : FnG P w K mg base 5 "is_heap" m_is_heap []) : FnOk P w K mg base CX0 8 f fd ["heap"] (spD K m_law_judged) :=
  fnM F sc_law_judged fun cdv A outer s H hr => b_cons (s_asgT (e_bv 0) (g_tup rfl (gs_cons (g_name sc_law_judged.nd) (gs_cons (g_name sc_law_judged.nd) gs_nil)))) (b_cons (s_asg sc_law_judged.nd (e_len (by rfl) B.len_ (e_bv 2))) (b_cons (s_asg sc_law_judged.nd (e_tup (a_cons (e_bin op_repN g_mulN (e_tup (a_cons e_non a_nil)) e_int) (a_cons (e_bin op_addA g_add (e_bin op_addA g_add (e_bv 2) (e_bin op_repN g_mulN (e_tup (a_cons e_non a_nil)) (e_bin op_sub g_sub e_int (e_bv 3)))) (e_tup (a_cons (e_tup (a_cons e_non (a_cons (e_tup (a_cons e_str (a_cons (e_un un_neg g_neg e_int) a_nil))) (a_cons e_non (a_cons (e_tup (a_cons e_str (a_cons e_int a_nil))) a_nil))))) a_nil))) a_nil)))) (b_cons (s_if (t_not (t_val (e_all rfl (by rfl) B.all_ (e_lc (j := 0) rfl sc_law_judged.nd (c_seq (e_tup (a_cons (e_var 0) (a_cons (e_var 4) (a_cons (e_tup (a_cons (e_tup a_nil) (a_cons (e_tup a_nil) a_nil))) a_nil))))) (blkOk_by (own := [("one", 7)]) rfl) (fun s H C cl fp => g_name sc_law_judged.nd) (fun s H C cl fp => ts_nil) (fun s H C cl fp => e_fn (F_law_like.d (by omega)) hr (by rfl) (a_cons (e_fn (F_is_heap.d (by omega)) hr (by rfl) (a_cons (e_bv 7) a_nil) pass0) (a_cons e_bl a_nil)) pass0))))) (b_one (s_ret e_bl)) b_nil) (b_cons (s_asg sc_law_judged.nd (e_lst (a_cons e_non (a_cons e_int (a_cons (e_lst (a_cons (e_var 1) (a_cons (e_var 2) a_nil))) (a_cons (e_tup (a_cons (e_lstOf (by rfl) B.list_ (e_bv 1)) (a_cons (e_var 2) a_nil))) (a_cons (e_tup (a_cons (e_var 1) (a_cons (e_lstOf (by rfl) B.list_ (e_bv 2)) a_nil))) (a_cons (e_tup (a_cons (e_var 1) a_nil)) (a_cons (e_bin op_addA g_add (e_bv 0) (e_tup (a_cons (e_tup a_nil) a_nil))) a_nil))))))))) (b_cons (s_ext (e_lst (a_cons (e_tup (a_cons (e_bin op_repN g_mulN (e_tup (a_cons e_non a_nil)) e_int) (a_cons (e_var 2) a_nil))) (a_cons (e_tup (a_cons (e_var 1) (a_cons (e_sl (e_bin op_addA g_add (e_bv 2) (e_bin op_repN g_mulN (e_tup (a_cons e_non a_nil)) e_int)) o_none (o_some e_int)) a_nil))) (a_cons (e_tup (a_cons (e_tup (a_cons (e_var 3) a_nil)) (a_cons (e_var 2) a_nil))) (a_cons (e_tup (a_cons (e_tup (a_cons (e_un un_neg g_neg e_int) a_nil)) (a_cons (e_var 2) a_nil))) a_nil)))))) (b_cons (s_ext (e_lst (a_cons (e_tup (a_cons (e_tup (a_cons e_bl a_nil)) (a_cons (e_tup (a_cons (e_tup (a_cons e_non a_nil)) (a_cons (e_tup (a_cons e_non a_nil)) a_nil))) a_nil))) (a_cons (e_tup (a_cons (e_tup (a_cons (e_tup (a_cons e_str (a_cons e_int a_nil))) a_nil)) (a_cons (e_var 2) a_nil))) (a_cons (e_tup (a_cons (e_var 1) (a_cons (e_bin op_addA g_add (e_bv 2) (e_tup (a_cons (e_lst (a_cons e_non a_nil)) a_nil))) a_nil))) a_nil))))) (b_cons (s_asg sc_law_judged.nd (e_tup (a_cons (e_tup a_nil) (a_cons (e_bin op_repN g_mulN (e_tup (a_cons e_non a_nil)) e_int) (a_cons (e_tup (a_cons (e_tup (a_cons e_str (a_cons e_bl a_nil))) a_nil)) (a_cons (e_tup (a_cons (e_tup (a_cons e_str (a_cons e_str a_nil))) a_nil)) (a_cons (e_tup (a_cons (e_tup (a_cons e_str a_nil)) a_nil)) (a_cons (e_tup (a_cons (e_bin op_addA g_add (e_bv 3) e_int) a_nil)) (a_cons (e_tup (a_cons e_str a_nil)) a_nil))))))))) (b_cons (s_ext (e_lc (j := 0) rfl sc_law_judged.nd (c_seq (e_var 6)) (blkOk_by (own := [("cell", 8)]) rfl) (fun s H C cl fp => g_name sc_law_judged.nd) (fun s H C cl fp => ts_nil) (fun s H C cl fp => e_tup (a_cons (e_var 1) (a_cons (e_bin op_addA g_add (e_bv 2) (e_tup (a_cons (e_var 8) a_nil))) a_nil))))) (b_cons (s_app (e_tup (a_cons (e_var 1) (a_cons (e_bin op_addA g_add (e_bv 2) (e_tup (a_cons e_non (a_cons (e_tup (a_cons (e_var 3) a_nil)) a_nil)))) a_nil)))) (b_one (s_ret (e_all rfl (by rfl) B.all_ (e_lc (j := 0) rfl sc_law_judged.nd (c_list (e_bv 5)) (blkOk_by (own := [("one", 7)]) rfl) (fun s H C cl fp => g_name sc_law_judged.nd) (fun s H C cl fp => ts_nil) (fun s H C cl fp => e_fn (F_law_like.d (by omega)) hr (by rfl) (a_cons (e_fn (F_is_heap.d (by omega)) hr (by rfl) (a_cons (e_bv 7) a_nil) pass0) (a_cons e_bl a_nil)) pass0))))))))))))))
set_option maxHeartbeats 1000000 in
theorem ok_law_held {f fd} (F : Fun K "_law_held" "_law_held" s_law_held f fd) (B : MG mg) (F_law_is_int : FnG P w K mg base 1 "_law_is_int" m_law_is_int []) : FnOk P w K mg base CX0 2 f fd ["cell"] (spD K m_law_held) :=
  fnM F sc_law_held fun cdv A outer s H hr => b_cons (s_if (t_cmp op_isN g_isN (e_bv 0) e_non) (b_one (s_ret (e_lst a_nil))) b_nil) (b_one (s_ret (e_lc (j := 0) rfl sc_law_held.nd (c_seq (e_var 0)) (blkOk_by (own := [("field", 1)]) rfl) (fun s H C cl fp => g_name sc_law_held.nd) (fun s H C cl fp => ts_one (t_val (e_fn (F_law_is_int.d (by omega)) hr (by rfl) (a_cons (e_bv 1) a_nil) pass0))) (fun s H C cl fp => e_var 1))))
set_option maxHeartbeats 1000000 in
theorem ok_law_met {f fd} (F : Fun K "_law_met" "_law_met" s_law_met f fd) (B : MG mg) (F_law_held : FnG P w K mg base 2 "_law_held" m_law_held []) : FnOk P w K mg base CX0 3 f fd ["cells", "starts"] (spD K m_law_met) :=
  fnM F sc_law_met fun cdv A outer s H hr => b_cons (s_asg sc_law_met.nd (e_lst a_nil)) (b_cons (s_for PassesOwn.never rfl (i_seq (e_var 1)) (g_name sc_law_met.nd) (b_one (s_if ((w_and (t_cmp op_notN g_notN (e_bv 3) e_non) (w_and1 (t_cmp op_notIn_seq (g_in true) (e_bv 3) (e_bv 2)))).t) (b_one (s_app (e_var 3))) b_nil))) (b_cons (s_for PassesOwn.never rfl (i_range1 (by rfl) B.range_ (e_len (by rfl) B.len_ (e_bv 0))) (g_name sc_law_met.nd) (b_one (s_if (t_cmp op_lt g_cmpI (e_bv 4) (e_len (by rfl) B.len_ (e_bv 2))) (b_one (s_for PassesOwn.never rfl (i_seq (e_fn (F_law_held.d (by omega)) hr (by rfl) (a_cons (e_ix ix_seq g_ix (e_bv 0) (e_ix ix_seq g_ix (e_bv 2) (e_bv 4))) a_nil) pass0)) (g_name sc_law_met.nd) (b_one (s_if (t_cmp op_notIn_seq (g_in true) (e_bv 5) (e_bv 2)) (b_one (s_app (e_var 5))) b_nil)))) b_nil))) (b_one (s_ret (e_bv 2)))))
set_option maxHeartbeats 1000000 in
theorem ok_is_address {f fd} (F : Fun K "_is_address" "_is_address" s_is_address f fd) (B : MG mg) : FnOk P w K mg base CX0 1 f fd ["field"] (spD K m_is_address) :=
  fnM F sc_is_address fun cdv A outer s H hr => b_one (s_ret (e_isi .int (by rfl) B.isinstance_ (by rfl) B.int_ (e_bv 0)))
set_option maxHeartbeats 1000000 in
theorem ok_moved {f fd} (F : Fun K "_moved" "_moved" s_moved f fd) (B : MG mg) (F_is_address : FnG P w K mg base 1 "_is_address" m_is_address []) : FnOk P w K mg base CX0 2 f fd ["heap", "order"] (spD K m_moved) :=
  fnM F sc_moved fun cdv A outer s H hr => b_cons (s_asgT (e_bv 0) (g_tup rfl (gs_cons (g_name sc_moved.nd) (gs_cons (g_name sc_moved.nd) gs_nil)))) (b_cons (s_asg sc_moved.nd (e_dc rfl sc_moved.nd (c_enum (by rfl) B.enumerate_ (e_var 1)) (blkOk_by (own := [("name", 6), ("address", 7)]) rfl) (fun s H C cl fp => g_tup rfl (gs_cons (g_name sc_moved.nd) (gs_cons (g_name sc_moved.nd) gs_nil))) (fun s H C cl fp => ts_nil) (fun s H C cl fp => e_var 7) (fun s H C cl fp => e_var 6))) (b_cons (s_setLc (j := 0) rfl sc_moved.nd (by rfl) (c_seq (e_var 1)) (blkOk_by (own := [("address", 7)]) rfl) (fun s H C cl fp => g_name sc_moved.nd) (fun s H C cl fp => ts_nil) (fun s H C cl fp => e_tupOf (by rfl) B.tuple_ (e_lc (j := 0) rfl sc_moved.nd (c_seq (e_ix ix_seq g_ix (e_bv 3) (e_bv 7))) (blkOk_by (own := [("field", 8)]) rfl) (fun s H C cl fp => g_name sc_moved.nd) (fun s H C cl fp => ts_nil) (fun s H C cl fp => e_if (t_val (e_fn (F_is_address.d (by omega)) hr (by rfl) (a_cons (e_bv 8) a_nil) pass0)) (e_dget (hu_of hr) (e_bv 4) (e_bv 8)) (e_var 8))))) (b_one (s_ret (e_tup (a_cons (e_tupOf (by rfl) B.tuple_ (e_lc (j := 0) rfl sc_moved.nd (c_seq (e_var 2)) (blkOk_by (own := [("root", 9)]) rfl) (fun s H C cl fp => g_name sc_moved.nd) (fun s H C cl fp => ts_nil) (fun s H C cl fp => e_if (t_cmp op_isN g_isN (e_bv 9) e_non) e_non (e_dget (hu_of hr) (e_bv 4) (e_bv 9))))) (a_cons (e_tupOf (by rfl) B.tuple_ (e_bv 5)) a_nil)))))))
set_option maxHeartbeats 1000000 in
theorem ok_held {f fd} (F : Fun K "_held" "_held" s_held f fd) (B : MG mg) (F_is_address : FnG P w K mg base 1 "_is_address" m_is_address []) : FnOk P w K mg base CX0 2 f fd ["cell"] (spD K m_held) :=
  fnM F sc_held fun cdv A outer s H hr => b_one (s_ret (e_if (t_cmp op_isN g_isN (e_bv 0) e_non) (e_lst a_nil) (e_lc (j := 0) rfl sc_held.nd (c_seq (e_var 0)) (blkOk_by (own := [("field", 1)]) rfl) (fun s H C cl fp => g_name sc_held.nd) (fun s H C cl fp => ts_one (t_val (e_fn (F_is_address.d (by omega)) hr (by rfl) (a_cons (e_bv 1) a_nil) pass0))) (fun s H C cl fp => e_var 1))))
set_option maxHeartbeats 1000000 in
theorem ok_met_cells {f fd dvs} (F : FunDD K "_met_cells" "_met_cells" s_met_cells dvs f fd) (B : MG mg) (F_held : FnG P w K mg base 2 "_held" m_held []) (F_is_address : FnG P w K mg base 1 "_is_address" m_is_address []) : FnOk P w K mg base CX0 3 f fd ["cells", "starts", "shut"] (spD K m_met_cells) :=
  fnMD F sc_met_cells fun cdv A outer s H hr => b_cons (s_asg sc_met_cells.nd (e_lst a_nil)) (b_cons (s_for PassesOwn.never rfl (i_seq (e_var 1)) (g_name sc_met_cells.nd) (b_one (s_if ((w_and (t_val (e_fn (F_is_address.d (by omega)) hr (by rfl) (a_cons (e_bv 4) a_nil) pass0)) (w_and (t_cmp op_notIn_seq (g_in true) (e_bv 4) (e_bv 3)) (w_and1 (t_cmp op_notIn_seq (g_in true) (e_bv 4) (e_bv 2))))).t) (b_one (s_app (e_var 4))) b_nil))) (b_cons (s_asg sc_met_cells.nd e_int) (b_cons (s_while PassesOwn.never (t_cmp op_lt g_cmpI (e_bv 5) (e_len (by rfl) B.len_ (e_bv 3))) (b_cons (s_for PassesOwn.never rfl (i_seq (e_fn (F_held.d (by omega)) hr (by rfl) (a_cons (e_ix ix_seq g_ix (e_bv 0) (e_ix ix_seq g_ix (e_bv 3) (e_bv 5))) a_nil) pass0)) (g_name sc_met_cells.nd) (b_one (s_if ((w_and (t_cmp op_notIn_seq (g_in true) (e_bv 6) (e_bv 3)) (w_and1 (t_cmp op_notIn_seq (g_in true) (e_bv 6) (e_bv 2)))).t) (b_one (s_app (e_var 6))) b_nil))) (b_one (s_aug sc_met_cells.nd ip_add g_addI e_int)))) (b_one (s_ret (e_bv 3))))))
set_option maxHeartbeats 1000000 in
theorem ok_reached_cells {f fd} (F : Fun K "reached_cells" "reached_cells" s_reached_cells f fd) (B : MG mg) (F_met_cells_1 : FnG P w K mg base 3 "_met_cells" m_met_cells [.ktp []]) : FnOk P w K mg base CX0 4 f fd ["heap"] (spD K m_reached_cells) :=
  fnM F sc_reached_cells fun cdv A outer s H hr => b_cons (s_asgT (e_bv 0) (g_tup rfl (gs_cons (g_name sc_reached_cells.nd) (gs_cons (g_name sc_reached_cells.nd) gs_nil)))) (b_one (s_ret (e_tupOf (by rfl) B.tuple_ (e_sorted hr.units (by rfl) B.sorted_ (e_fn (F_met_cells_1.d (by omega)) hr (by rfl) (a_cons (e_bv 2) (a_cons (e_bv 1) a_nil)) pass0)))))
set_option maxHeartbeats 1000000 in
theorem ok_slid_heap {f fd} (F : Fun K "slid_heap" "slid_heap" s_slid_heap f fd) (B : MG mg) (F_moved : FnG P w K mg base 2 "_moved" m_moved []) (F_reached_cells : FnG P w K mg base 4 "reached_cells" m_reached_cells []) : FnOk P w K mg base CX0 5 f fd ["heap"] (spD K m_slid_heap) :=
  fnM F sc_slid_heap fun cdv A outer s H hr => b_one (s_ret (e_fn (F_moved.d (by omega)) hr (by rfl) (a_cons (e_bv 0) (a_cons (e_fn (F_reached_cells.d (by omega)) hr (by rfl) (a_cons (e_bv 0) a_nil) pass0) a_nil)) pass0))
set_option maxHeartbeats 1000000 in
theorem ok_law_turned {f fd} (F : Fun K "_law_turned" "_law_turned" s_law_turned f fd) (B : MG mg) (F_law_is_int : FnG P w K mg base 1 "_law_is_int" m_law_is_int []) (F_law_field : FnG P w K mg base 1 "_law_field" m_law_field []) : FnOk P w K mg base CX0 2 f fd ["row", "heap"] (spD K m_law_turned) :=
  fnM F sc_law_turned fun cdv A outer s H hr => b_cons (s_asg sc_law_turned.nd (e_len (by rfl) B.len_ (e_ix ix_seq g_ix (e_bv 1) e_int))) (b_cons (s_asg sc_law_turned.nd (e_bin op_mod g_mod (e_intF (by rfl) B.int_ (e_ix ix_seq g_ix (e_bv 0) e_int)) (e_bv 2))) (b_cons (s_asg sc_law_turned.nd (e_lstOf (by rfl) B.list_ (e_bin op_addA g_add (e_sl (e_ix ix_seq g_ix (e_bv 1) e_int) (o_some (e_bv 3)) o_none) (e_sl (e_ix ix_seq g_ix (e_bv 1) e_int) o_none (o_some (e_bv 3)))))) (b_cons (s_for PassesOwn.never rfl (i_range1 (by rfl) B.range_ (e_bv 2)) (g_name sc_law_turned.nd) (b_one (s_if (t_cmp op_notN g_notN (e_ix ix_seq g_ix (e_bv 4) (e_bv 5)) e_non) (b_cons (s_asg sc_law_turned.nd (e_lstOf (by rfl) B.list_ (e_ix ix_seq g_ix (e_bv 4) (e_bv 5)))) (b_cons (s_for PassesOwn.never rfl (i_range1 (by rfl) B.range_ (e_len (by rfl) B.len_ (e_bv 6))) (g_name sc_law_turned.nd) (b_one (s_if (t_val (e_fn (F_law_is_int.d (by omega)) hr (by rfl) (a_cons (e_ix ix_seq g_ix (e_bv 6) (e_bv 7)) a_nil) pass0)) (b_one (s_set (e_bin op_mod g_mod (e_intF (by rfl) B.int_ (e_bin op_sub g_sub (e_ix ix_seq g_ix (e_bv 6) (e_bv 7)) (e_bv 3))) (e_bv 2)) (e_bv 7))) b_nil))) (b_one (s_set (e_tupOf (by rfl) B.tuple_ (e_bv 6)) (e_bv 5))))) b_nil))) (b_cons (s_asg sc_law_turned.nd (e_lst a_nil)) (b_cons (s_for PassesOwn.never rfl (i_seq (e_ix ix_seq g_ix (e_bv 1) e_int)) (g_name sc_law_turned.nd) (b_cons (s_if (t_cmp op_notN g_notN (e_bv 9) e_non) (b_one (s_asg sc_law_turned.nd (e_bin op_mod g_mod (e_intF (by rfl) B.int_ (e_bin op_sub g_sub (e_bv 9) (e_bv 3))) (e_bv 2)))) b_nil) (b_one (s_app (e_var 9))))) (b_cons (s_setLc (j := 0) rfl sc_law_turned.nd (by rfl) (c_range1 (by rfl) B.range_ (e_bv 2)) (blkOk_by (own := [("place", 5)]) rfl) (fun s H C cl fp => g_name sc_law_turned.nd) (fun s H C cl fp => ts_one (t_cmp op_notN g_notN (e_ix ix_seq g_ix (e_bv 4) (e_bv 5)) e_non)) (fun s H C cl fp => e_var 5)) (b_cons (s_if ((w_and (t_cmp (op_eqA hr.units) g_eq (e_bin op_mod g_mod (e_intF (by rfl) B.int_ (e_ix ix_seq g_ix (e_bv 0) e_int)) e_int) e_int) (w_and1 (t_cmp op_gt g_cmpI (e_len (by rfl) B.len_ (e_bv 10)) e_int))).t) (b_cons (s_asg sc_law_turned.nd (e_ix ix_seq g_ix (e_bv 10) (e_bin op_mod g_mod (e_intF (by rfl) B.int_ (e_ix ix_seq g_ix (e_bv 0) e_int)) (e_len (by rfl) B.len_ (e_bv 10))))) (b_cons (s_asg sc_law_turned.nd (e_bin op_mod g_mod (e_intF (by rfl) B.int_ (e_ix ix_seq g_ix (e_bv 0) e_int)) (e_len (by rfl) B.len_ (e_ix ix_seq g_ix (e_bv 4) (e_bv 5))))) (b_one (s_set (e_bin op_addA g_add (e_bin op_addA g_add (e_sl (e_ix ix_seq g_ix (e_bv 4) (e_bv 5)) o_none (o_some (e_bv 11))) (e_tup (a_cons (e_fn (F_law_field.d (by omega)) hr (by rfl) (a_cons (e_ix ix_seq g_ix (e_bv 0) e_int) (a_cons (e_bv 10) a_nil)) pass0) a_nil))) (e_sl (e_ix ix_seq g_ix (e_bv 4) (e_bv 5)) (o_some (e_bin op_addA g_add (e_bv 11) e_int)) o_none)) (e_bv 5))))) b_nil) (b_one (s_ret (e_tup (a_cons (e_tupOf (by rfl) B.tuple_ (e_bv 8)) (a_cons (e_tupOf (by rfl) B.tuple_ (e_bv 4)) a_nil))))))))))))
set_option maxHeartbeats 1000000 in
theorem ok_law_moved {f fd} (F : Fun K "_law_moved" "_law_moved" s_law_moved f fd) (B : MG mg) (F_law_is_int : FnG P w K mg base 1 "_law_is_int" m_law_is_int []) : FnOk P w K mg base CX0 2 f fd ["heap", "order"] (spD K m_law_moved) :=
  fnM F sc_law_moved fun cdv A outer s H hr => b_cons (s_asg sc_law_moved.nd (e_lst a_nil)) (b_cons (s_for PassesOwn.never rfl (i_seq (e_var 1)) (g_name sc_law_moved.nd) (b_cons (s_asg sc_law_moved.nd (e_lst a_nil)) (b_cons (s_for PassesOwn.never rfl (i_seq (e_ix ix_seq g_ix (e_ix ix_seq g_ix (e_bv 0) e_int) (e_bv 3))) (g_name sc_law_moved.nd) (b_cons (s_if (t_val (e_fn (F_law_is_int.d (by omega)) hr (by rfl) (a_cons (e_bv 5) a_nil) pass0)) (b_one (s_asg sc_law_moved.nd (e_lindex (hu65 hr) (e_bv 1) (e_bv 5)))) b_nil) (b_one (s_app (e_var 5))))) (b_one (s_app (e_tupOf (by rfl) B.tuple_ (e_bv 4))))))) (b_cons (s_asg sc_law_moved.nd (e_lst a_nil)) (b_cons (s_for PassesOwn.never rfl (i_seq (e_ix ix_seq g_ix (e_bv 0) e_int)) (g_name sc_law_moved.nd) (b_cons (s_if (t_cmp op_notN g_notN (e_bv 7) e_non) (b_one (s_asg sc_law_moved.nd (e_lindex (hu65 hr) (e_bv 1) (e_bv 7)))) b_nil) (b_one (s_app (e_var 7))))) (b_one (s_ret (e_tup (a_cons (e_tupOf (by rfl) B.tuple_ (e_bv 6)) (a_cons (e_tupOf (by rfl) B.tuple_ (e_bv 2)) a_nil))))))))
set_option maxHeartbeats 1000000 in
theorem ok_law_bare {f fd} (F : Fun K "_law_bare" "_law_bare" s_law_bare f fd) (B : MG mg) : FnOk P w K mg base CX0 1 f fd ["heap"] (spD K m_law_bare) :=
  fnM F sc_law_bare fun cdv A outer s H hr => b_cons (s_asg sc_law_bare.nd (e_ix ix_seq g_ix (e_bv 0) e_int)) (b_cons (s_for PassesOwn.never rfl (i_range1 (by rfl) B.range_ (e_len (by rfl) B.len_ (e_ix ix_seq g_ix (e_bv 0) e_int))) (g_name sc_law_bare.nd) (b_one (s_if ((w_and (t_cmp op_gt g_cmpI (e_len (by rfl) B.len_ (e_bv 1)) e_int) (w_and1 (t_cmp op_isN g_isN (e_ix ix_seq g_ix (e_bv 1) (e_bin op_sub g_sub (e_len (by rfl) B.len_ (e_bv 1)) e_int)) e_non))).t) (b_one (s_asg sc_law_bare.nd (e_sl (e_bv 1) o_none (o_some (e_bin op_sub g_sub (e_len (by rfl) B.len_ (e_bv 1)) e_int))))) b_nil))) (b_one (s_ret (e_tup (a_cons (e_ix ix_seq g_ix (e_bv 0) e_int) (a_cons (e_var 1) a_nil))))))
set_option maxHeartbeats 1000000 in
theorem ok_same_heap {f fd} (F : Fun K "same_heap" "same_heap" s_same_heap f fd) (B : MG mg) (F_is_address : FnG P w K mg base 1 "_is_address" m_is_address []) : FnOk P w K mg base CX0 2 f fd ["first", "second"] (spD K m_same_heap) :=
  fnM F sc_same_heap fun cdv A outer s H hr => b_cons (s_if (t_cmp (op_neA hr.units) g_ne (e_len (by rfl) B.len_ (e_ix ix_seq g_ix (e_bv 0) e_int)) (e_len (by rfl) B.len_ (e_ix ix_seq g_ix (e_bv 1) e_int))) (b_one (s_ret e_bl)) b_nil) (b_cons (s_asg sc_same_heap.nd (e_dnewK (k := 0))) (b_cons (s_asg sc_same_heap.nd (e_dnewK (k := 0))) (b_cons (s_asg sc_same_heap.nd (e_lstZip rfl (by rfl) B.list_ (by rfl) B.zip_ (e_ix ix_seq g_ix (e_bv 0) e_int) (e_ix ix_seq g_ix (e_bv 1) e_int))) (b_cons (s_while PassesOwn.never (t_tru (e_bv 4)) (b_cons (s_popT (i := 4) (g_tup rfl (gs_cons (g_name sc_same_heap.nd) (gs_cons (g_name sc_same_heap.nd) gs_nil)))) (b_one (s_if ((w_or (t_not (t_val (e_fn (F_is_address.d (by omega)) hr (by rfl) (a_cons (e_bv 5) a_nil) pass0))) (w_or1 (t_not (t_val (e_fn (F_is_address.d (by omega)) hr (by rfl) (a_cons (e_bv 6) a_nil) pass0))))).t) (b_one (s_if (t_cmp (op_neA hr.units) g_ne (e_bv 5) (e_bv 6)) (b_one (s_ret e_bl)) b_nil)) (b_one (s_if ((w_or (t_din (hu_of hr) (e_bv 5) (e_bv 2)) (w_or1 (t_din (hu_of hr) (e_bv 6) (e_bv 3)))).t) (b_one (s_if ((w_or (t_cmp (op_neA hr.units) g_ne (e_dget1 (hu_of hr) (e_bv 2) (e_bv 5)) (e_bv 6)) (w_or1 (t_cmp (op_neA hr.units) g_ne (e_dget1 (hu_of hr) (e_bv 3) (e_bv 6)) (e_bv 5)))).t) (b_one (s_ret e_bl)) b_nil)) (b_cons (s_put (hu_of hr) (e_var 6) (e_bv 5)) (b_cons (s_put (hu_of hr) (e_var 5) (e_bv 6)) (b_cons (s_par2 rfl sc_same_heap.nd (a_cons (e_ix ix_seq g_ix (e_ix ix_seq g_ix (e_bv 0) e_int) (e_bv 5)) (a_cons (e_ix ix_seq g_ix (e_ix ix_seq g_ix (e_bv 1) e_int) (e_bv 6)) a_nil))) (b_cons (s_if (t_cmp (op_neA hr.units) g_ne (e_len (by rfl) B.len_ (e_bv 7)) (e_len (by rfl) B.len_ (e_bv 8))) (b_one (s_ret e_bl)) b_nil) (b_one (s_ext (e_lstZip rfl (by rfl) B.list_ (by rfl) B.zip_ (e_var 7) (e_var 8)))))))))))))) (b_one (s_ret e_bl))))))
set_option maxHeartbeats 1000000 in
theorem ok_marked_swept {f fd} (F : Fun K "marked_swept" "marked_swept" s_marked_swept f fd) (B : MG mg) (F_met_cells_1 : FnG P w K mg base 3 "_met_cells" m_met_cells [.ktp []]) : FnOk P w K mg base CX0 4 f fd ["heap"] (spD K m_marked_swept) :=
  fnM F sc_marked_swept fun cdv A outer s H hr => b_cons (s_asgT (e_bv 0) (g_tup rfl (gs_cons (g_name sc_marked_swept.nd) (gs_cons (g_name sc_marked_swept.nd) gs_nil)))) (b_cons (s_asg sc_marked_swept.nd (e_fn (F_met_cells_1.d (by omega)) hr (by rfl) (a_cons (e_bv 2) (a_cons (e_bv 1) a_nil)) pass0)) (b_one (s_ret (e_tup (a_cons (e_var 1) (a_cons (e_tupOf (by rfl) B.tuple_ (e_lc (j := 0) rfl sc_marked_swept.nd (c_enum (by rfl) B.enumerate_ (e_var 2)) (blkOk_by (own := [("address", 4), ("cell", 5)]) rfl) (fun s H C cl fp => g_tup rfl (gs_cons (g_name sc_marked_swept.nd) (gs_cons (g_name sc_marked_swept.nd) gs_nil))) (fun s H C cl fp => ts_nil) (fun s H C cl fp => e_if (t_cmp op_in_seq (g_in false) (e_bv 4) (e_bv 3)) (e_var 5) e_non))) a_nil))))))
set_option maxHeartbeats 1000000 in
theorem ok_copied_heap {f fd} (F : Fun K "copied_heap" "copied_heap" s_copied_heap f fd) (B : MG mg) (F_moved : FnG P w K mg base 2 "_moved" m_moved []) (F_met_cells_1 : FnG P w K mg base 3 "_met_cells" m_met_cells [.ktp []]) : FnOk P w K mg base CX0 4 f fd ["heap"] (spD K m_copied_heap) :=
  fnM F sc_copied_heap fun cdv A outer s H hr => b_cons (s_asgT (e_bv 0) (g_tup rfl (gs_cons (g_name sc_copied_heap.nd) (gs_cons (g_name sc_copied_heap.nd) gs_nil)))) (b_one (s_ret (e_fn (F_moved.d (by omega)) hr (by rfl) (a_cons (e_bv 0) (a_cons (e_fn (F_met_cells_1.d (by omega)) hr (by rfl) (a_cons (e_bv 2) (a_cons (e_bv 1) a_nil)) pass0) a_nil)) pass0)))
set_option maxHeartbeats 1000000 in
theorem ok_shape_of {f fd} (F : Fun K "shape_of" "shape_of" s_shape_of f fd) (B : MG mg) (F_copied_heap : FnG P w K mg base 4 "copied_heap" m_copied_heap []) : FnOk P w K mg base CX0 5 f fd ["heap"] (spD K m_shape_of) :=
  fnM F sc_shape_of fun cdv A outer s H hr => b_one (s_ret (e_fn (F_copied_heap.d (by omega)) hr (by rfl) (a_cons (e_bv 0) a_nil) pass0))
set_option maxHeartbeats 1000000 in
theorem ok_law_swept {f fd} (F : Fun K "_law_swept" "_law_swept" s_law_swept f fd) (B : MG mg) (F_law_met : FnG P w K mg base 3 "_law_met" m_law_met []) (F_slid_heap : FnG P w K mg base 5 "slid_heap" m_slid_heap []) (F_law_turned : FnG P w K mg base 2 "_law_turned" m_law_turned []) (F_law_moved : FnG P w K mg base 2 "_law_moved" m_law_moved []) (F_law_like : FnG P w K mg base 7 "_law_like" m_law_like []) (F_law_bare : FnG P w K mg base 1 "_law_bare" m_law_bare []) (F_same_heap : FnG P w K mg base 2 "same_heap" m_same_heap []) (F_reached_cells : FnG P w K mg base 4 "reached_cells" m_reached_cells []) (F_marked_swept : FnG P w K mg base 4 "marked_swept" m_marked_swept []) (F_copied_heap : FnG P w K mg base 4 "copied_heap" m_copied_heap []) (F_shape_of : FnG P w K mg base 5 "shape_of" m_shape_of []) : FnOk P w K mg base CX0 8 f fd ["row", "heap"] (spD K m_law_swept) :=
  fnM F sc_law_swept fun cdv A outer s H hr => b_cons (s_asg sc_law_swept.nd (e_fn (F_law_met.d (by omega)) hr (by rfl) (a_cons (e_ix ix_seq g_ix (e_bv 1) e_int) (a_cons (e_ix ix_seq g_ix (e_bv 1) e_int) a_nil)) pass0)) (b_cons (s_par2 rfl sc_law_swept.nd (a_cons (e_fn (F_law_moved.d (by omega)) hr (by rfl) (a_cons (e_bv 1) (a_cons (e_bv 2) a_nil)) pass0) (a_cons (e_sorted hr.units (by rfl) B.sorted_ (e_bv 2)) a_nil))) (b_cons (s_asg sc_law_swept.nd (e_tupOf (by rfl) B.tuple_ (e_lc (j := 0) rfl sc_law_swept.nd (c_range1 (by rfl) B.range_ (e_len (by rfl) B.len_ (e_ix ix_seq g_ix (e_bv 1) e_int))) (blkOk_by (own := [("place", 9)]) rfl) (fun s H C cl fp => g_name sc_law_swept.nd) (fun s H C cl fp => ts_nil) (fun s H C cl fp => e_ix ix_seq g_ix (e_tup (a_cons e_non (a_cons (e_ix ix_seq g_ix (e_ix ix_seq g_ix (e_bv 1) e_int) (e_bv 9)) a_nil))) (e_intF (by rfl) B.int_ (e_cmp op_in_seq (g_in false) (e_bv 9) (e_bv 2))))))) (b_cons (s_if ((w_or (t_not (t_val (e_fn (F_law_like.d (by omega)) hr (by rfl) (a_cons (e_fn (F_reached_cells.d (by omega)) hr (by rfl) (a_cons (e_bv 1) a_nil) pass0) (a_cons (e_tupOf (by rfl) B.tuple_ (e_bv 4)) a_nil)) pass0))) (w_or1 (t_not (t_val (e_fn (F_law_like.d (by omega)) hr (by rfl) (a_cons (e_fn (F_marked_swept.d (by omega)) hr (by rfl) (a_cons (e_bv 1) a_nil) pass0) (a_cons (e_tup (a_cons (e_ix ix_seq g_ix (e_bv 1) e_int) (a_cons (e_var 5) a_nil))) a_nil)) pass0))))).t) (b_one (s_ret e_bl)) b_nil) (b_cons (s_if ((w_or (t_not (t_val (e_fn (F_law_like.d (by omega)) hr (by rfl) (a_cons (e_fn (F_copied_heap.d (by omega)) hr (by rfl) (a_cons (e_bv 1) a_nil) pass0) (a_cons (e_bv 3) a_nil)) pass0))) (w_or1 (t_not (t_val (e_fn (F_law_like.d (by omega)) hr (by rfl) (a_cons (e_fn (F_shape_of.d (by omega)) hr (by rfl) (a_cons (e_bv 1) a_nil) pass0) (a_cons (e_bv 3) a_nil)) pass0))))).t) (b_one (s_ret e_bl)) b_nil) (b_cons (s_asg sc_law_swept.nd (e_fn (F_slid_heap.d (by omega)) hr (by rfl) (a_cons (e_bv 1) a_nil) pass0)) (b_cons (s_if (t_not (t_val (e_fn (F_law_like.d (by omega)) hr (by rfl) (a_cons (e_fn (F_law_bare.d (by omega)) hr (by rfl) (a_cons (e_bv 6) a_nil) pass0) (a_cons (e_fn (F_law_moved.d (by omega)) hr (by rfl) (a_cons (e_bv 1) (a_cons (e_bv 4) a_nil)) pass0) a_nil)) pass0))) (b_one (s_ret e_bl)) b_nil) (b_cons (s_if (t_not (t_val (e_all rfl (by rfl) B.all_ (e_lc (j := 0) rfl sc_law_swept.nd (c_seq (e_tup (a_cons (e_var 1) (a_cons (e_var 3) (a_cons (e_var 6) (a_cons (e_tup (a_cons (e_ix ix_seq g_ix (e_bv 1) e_int) (a_cons (e_var 5) a_nil))) a_nil)))))) (blkOk_by (own := [("one", 10)]) rfl) (fun s H C cl fp => g_name sc_law_swept.nd) (fun s H C cl fp => ts_nil) (fun s H C cl fp => e_fn (F_law_like.d (by omega)) hr (by rfl) (a_cons (e_fn (F_same_heap.d (by omega)) hr (by rfl) (a_cons (e_bv 1) (a_cons (e_bv 10) a_nil)) pass0) (a_cons e_bl a_nil)) pass0))))) (b_one (s_ret e_bl)) b_nil) (b_cons (s_asg sc_law_swept.nd (e_fn (F_law_turned.d (by omega)) hr (by rfl) (a_cons (e_bv 0) (a_cons (e_bv 1) a_nil)) pass0)) (b_cons (s_asg sc_law_swept.nd (e_cmp (op_eqA hr.units) g_eq (e_fn (F_law_moved.d (by omega)) hr (by rfl) (a_cons (e_bv 7) (a_cons (e_fn (F_law_met.d (by omega)) hr (by rfl) (a_cons (e_ix ix_seq g_ix (e_bv 7) e_int) (a_cons (e_ix ix_seq g_ix (e_bv 7) e_int) a_nil)) pass0) a_nil)) pass0) (e_bv 3))) (b_one (s_ret (e_and (e_fn (F_law_like.d (by omega)) hr (by rfl) (a_cons (e_fn (F_same_heap.d (by omega)) hr (by rfl) (a_cons (e_bv 1) (a_cons (e_bv 7) a_nil)) pass0) (a_cons (e_bv 8) a_nil)) pass0) (e_one (e_fn (F_law_like.d (by omega)) hr (by rfl) (a_cons (e_fn (F_same_heap.d (by omega)) hr (by rfl) (a_cons (e_bv 7) (a_cons (e_bv 3) a_nil)) pass0) (a_cons (e_bv 8) a_nil)) pass0))))))))))))))
set_option maxHeartbeats 1000000 in
theorem ok_law_place {f fd} (F : Fun K "_law_place" "_law_place" s_law_place f fd) (B : MG mg) : FnOk P w K mg base CX0 1 f fd ["rooms", "begin"] (spD K m_law_place) :=
  fnM F sc_law_place fun cdv A outer s H hr => b_cons (s_asgT (e_tup (a_cons e_int (a_cons e_int a_nil))) (g_tup rfl (gs_cons (g_name sc_law_place.nd) (gs_cons (g_name sc_law_place.nd) gs_nil)))) (b_cons (s_for PassesOwn.never rfl (i_seq (e_var 0)) (g_tup rfl (gs_cons (g_name sc_law_place.nd) (gs_cons (g_name sc_law_place.nd) gs_nil))) (b_cons (s_if (t_cmp op_lt g_cmpI (e_bv 3) (e_bv 1)) (b_one (s_asg sc_law_place.nd (e_bin op_addA g_add (e_bv 2) e_int))) b_nil) (b_one (s_asg sc_law_place.nd (e_bin op_addA g_add (e_bv 3) (e_bv 4)))))) (b_one (s_ret (e_bv 2))))
set_option maxHeartbeats 1000000 in
theorem ok_room_given {f fd} (F : Fun K "room_given" "room_given" s_room_given f fd) (B : MG mg) : FnOk P w K mg base CX0 1 f fd ["rooms", "place"] (spD K m_room_given) :=
  fnM F sc_room_given fun cdv A outer s H hr => b_cons (s_asg sc_room_given.nd (e_if ((w_and (t_cmp op_gt g_cmpI (e_bv 1) e_int) (w_and1 (t_val (e_ix ix_seq g_ix (e_ix ix_seq g_ix (e_bv 0) (e_bin op_sub g_sub (e_bv 1) e_int)) e_int)))).t) (e_bin op_sub g_sub (e_bv 1) e_int) (e_var 1))) (b_cons (s_asg sc_room_given.nd (e_if ((w_and (t_cmp op_lt g_cmpI (e_bin op_addA g_add (e_bv 1) e_int) (e_len (by rfl) B.len_ (e_bv 0))) (w_and1 (t_val (e_ix ix_seq g_ix (e_ix ix_seq g_ix (e_bv 0) (e_bin op_addA g_add (e_bv 1) e_int)) e_int)))).t) (e_bin op_addA g_add (e_bv 1) e_int) (e_var 1))) (b_cons (s_asg sc_room_given.nd (e_sum rfl (by rfl) B.sum_ (e_lc (j := 0) rfl sc_room_given.nd (c_seq (e_sl (e_bv 0) (o_some (e_bv 2)) (o_some (e_bin op_addA g_add (e_bv 3) e_int)))) (blkOk_by (own := [("room", 5)]) rfl) (fun s H C cl fp => g_name sc_room_given.nd) (fun s H C cl fp => ts_nil) (fun s H C cl fp => e_ix ix_seq g_ix (e_bv 5) e_int)))) (b_one (s_ret (e_bin op_addA g_add (e_bin op_addA g_add (e_sl (e_bv 0) o_none (o_some (e_bv 2))) (e_tup (a_cons (e_tup (a_cons (e_var 4) (a_cons e_bl a_nil))) a_nil))) (e_sl (e_bv 0) (o_some (e_bin op_addA g_add (e_bv 3) e_int)) o_none))))))
set_option maxHeartbeats 1000000 in
theorem ok_law_given {f fd} (F : Fun K "_law_given" "_law_given" s_law_given f fd) (B : MG mg) : FnOk P w K mg base CX0 1 f fd ["rooms", "place"] (spD K m_law_given) :=
  fnM F sc_law_given fun cdv A outer s H hr => b_cons (s_par2 rfl sc_law_given.nd (a_cons (e_var 1) (a_cons (e_bin op_addA g_add (e_bv 1) e_int) a_nil))) (b_cons (s_if ((w_and (t_cmp op_gt g_cmpI (e_bv 2) e_int) (w_and1 (t_val (e_ix ix_seq g_ix (e_ix ix_seq g_ix (e_bv 0) (e_bin op_sub g_sub (e_bv 2) e_int)) e_int)))).t) (b_one (s_asg sc_law_given.nd (e_bin op_sub g_sub (e_bv 2) e_int))) b_nil) (b_cons (s_if ((w_and (t_cmp op_lt g_cmpI (e_bv 3) (e_len (by rfl) B.len_ (e_bv 0))) (w_and1 (t_val (e_ix ix_seq g_ix (e_ix ix_seq g_ix (e_bv 0) (e_bv 3)) e_int)))).t) (b_one (s_asg sc_law_given.nd (e_bin op_addA g_add (e_bv 3) e_int))) b_nil) (b_one (s_ret (e_bin op_addA g_add (e_bin op_addA g_add (e_sl (e_bv 0) o_none (o_some (e_bv 2))) (e_tup (a_cons (e_tup (a_cons (e_sum rfl (by rfl) B.sum_ (e_lc (j := 0) rfl sc_law_given.nd (c_seq (e_sl (e_bv 0) (o_some (e_bv 2)) (o_some (e_bv 3)))) (blkOk_by (own := [("size", 4), ("free", 5)]) rfl) (fun s H C cl fp => g_tup rfl (gs_cons (g_name sc_law_given.nd) (gs_cons (g_name sc_law_given.nd) gs_nil))) (fun s H C cl fp => ts_nil) (fun s H C cl fp => e_var 4))) (a_cons e_bl a_nil))) a_nil))) (e_sl (e_bv 0) (o_some (e_bv 3)) o_none))))))
set_option maxHeartbeats 1000000 in
theorem ok_lost_room {f fd} (F : Fun K "lost_room" "lost_room" s_lost_room f fd) (B : MG mg) : FnOk P w K mg base CX0 1 f fd ["rooms"] (spD K m_lost_room) :=
  fnM F sc_lost_room fun cdv A outer s H hr => b_cons (s_setLc (j := 0) rfl sc_lost_room.nd (by rfl) (c_seq (e_var 0)) (blkOk_by (own := [("length", 2), ("is_free", 3)]) rfl) (fun s H C cl fp => g_tup rfl (gs_cons (g_name sc_lost_room.nd) (gs_cons (g_name sc_lost_room.nd) gs_nil))) (fun s H C cl fp => ts_one (t_tru (e_bv 3))) (fun s H C cl fp => e_var 2)) (b_one (s_ret (e_bin op_sub g_sub (e_sum rfl (by rfl) B.sum_ (e_bv 1)) (e_maxDef rfl hr.units (by rfl) B.max_ (e_bv 1) e_int))))
set_option maxHeartbeats 1000000 in
theorem ok_first_room {f fd} (F : Fun K "first_room" "first_room" s_first_room f fd) (B : MG mg) : FnOk P w K mg base CX0 1 f fd ["rooms", "size"] (spD K m_first_room) :=
  fnM F sc_first_room fun cdv A outer s H hr => b_cons (s_for PassesOwn.never rfl (i_enum (by rfl) B.enumerate_ (e_var 0)) (g_tup rfl (gs_cons (g_name sc_first_room.nd) (gs_cons (g_tup rfl (gs_cons (g_name sc_first_room.nd) (gs_cons (g_name sc_first_room.nd) gs_nil))) gs_nil))) (b_one (s_if ((w_and (t_tru (e_bv 4)) (w_and1 (t_cmp op_ge g_cmpI (e_bv 3) (e_bv 1)))).t) (b_one (s_ret (e_bv 2))) b_nil))) (b_one (s_ret e_non))
set_option maxHeartbeats 1000000 in
theorem ok_best_room {f fd} (F : Fun K "best_room" "best_room" s_best_room f fd) (B : MG mg) : FnOk P w K mg base CX0 1 f fd ["rooms", "size"] (spD K m_best_room) :=
  fnM F sc_best_room fun cdv A outer s H hr => b_cons (s_asg sc_best_room.nd e_non) (b_cons (s_for PassesOwn.never rfl (i_enum (by rfl) B.enumerate_ (e_var 0)) (g_tup rfl (gs_cons (g_name sc_best_room.nd) (gs_cons (g_tup rfl (gs_cons (g_name sc_best_room.nd) (gs_cons (g_name sc_best_room.nd) gs_nil))) gs_nil))) (b_one (s_if ((w_and (t_tru (e_bv 5)) (w_and (t_cmp op_ge g_cmpI (e_bv 4) (e_bv 1)) (w_and1 ((w_or (t_cmp op_isN g_isN (e_bv 2) e_non) (w_or1 (t_cmp op_lt g_cmpI (e_bv 4) (e_ix ix_seq g_ix (e_ix ix_seq g_ix (e_bv 0) (e_bv 2)) e_int)))).t)))).t) (b_one (s_asg sc_best_room.nd (e_var 3))) b_nil))) (b_one (s_ret (e_bv 2))))
set_option maxHeartbeats 1000000 in
theorem ok_room_taken {f fd} (F : Fun K "room_taken" "room_taken" s_room_taken f fd) (B : MG mg) : FnOk P w K mg base CX0 1 f fd ["rooms", "place", "size"] (spD K m_room_taken) :=
  fnM F sc_room_taken fun cdv A outer s H hr => b_cons (s_asg sc_room_taken.nd (e_bin op_sub g_sub (e_ix ix_seq g_ix (e_ix ix_seq g_ix (e_bv 0) (e_bv 1)) e_int) (e_bv 2))) (b_cons (s_asg sc_room_taken.nd (e_if (t_cmp (op_eqA hr.units) g_eq (e_bv 3) e_int) (e_tup (a_cons (e_tup (a_cons (e_var 2) (a_cons e_bl a_nil))) a_nil)) (e_tup (a_cons (e_tup (a_cons (e_var 2) (a_cons e_bl a_nil))) (a_cons (e_tup (a_cons (e_var 3) (a_cons e_bl a_nil))) a_nil))))) (b_one (s_ret (e_bin op_addA g_add (e_bin op_addA g_add (e_sl (e_bv 0) o_none (o_some (e_bv 1))) (e_bv 4)) (e_sl (e_bv 0) (o_some (e_bin op_addA g_add (e_bv 1) e_int)) o_none)))))
set_option maxHeartbeats 1000000 in
theorem ok_law_rooms {f fd} (F : Fun K "_law_rooms" "_law_rooms" s_law_rooms f fd) (B : MG mg) (F_law_met : FnG P w K mg base 3 "_law_met" m_law_met []) (F_law_place : FnG P w K mg base 1 "_law_place" m_law_place []) (F_law_like : FnG P w K mg base 7 "_law_like" m_law_like []) (F_room_given : FnG P w K mg base 1 "room_given" m_room_given []) (F_law_given : FnG P w K mg base 1 "_law_given" m_law_given []) (F_lost_room : FnG P w K mg base 1 "lost_room" m_lost_room []) (F_first_room : FnG P w K mg base 1 "first_room" m_first_room []) (F_best_room : FnG P w K mg base 1 "best_room" m_best_room []) (F_room_taken : FnG P w K mg base 1 "room_taken" m_room_taken []) : FnOk P w K mg base CX0 8 f fd ["row", "heap"] (spD K m_law_rooms) :=
  fnM F sc_law_rooms fun cdv A outer s H hr => b_cons (s_parN rfl (a_cons (e_fn (F_law_met.d (by omega)) hr (by rfl) (a_cons (e_ix ix_seq g_ix (e_bv 1) e_int) (a_cons (e_ix ix_seq g_ix (e_bv 1) e_int) a_nil)) pass0) (a_cons (e_lst a_nil) a_nil)) ⟨pg_name (i := 2) sc_law_rooms.nd rfl (by first | exact Or.inl rfl | exact Or.inr rfl), rfl, ⟨pg_name (i := 3) sc_law_rooms.nd rfl (by first | exact Or.inl rfl | exact Or.inr rfl), rfl, trivial⟩⟩) (b_cons (s_for PassesOwn.never rfl (i_seq (e_ix ix_seq g_ix (e_bv 1) e_int)) (g_name sc_law_rooms.nd) (b_one (s_app (e_len (by rfl) B.len_ (e_ix ix_seq g_ix (e_tup (a_cons (e_var 4) (a_cons (e_tup (a_cons e_int a_nil)) a_nil))) (e_intF (by rfl) B.int_ (e_cmp op_isN g_isN (e_bv 4) e_non))))))) (b_cons (s_asg sc_law_rooms.nd (e_tupOf (by rfl) B.tuple_ (e_lc (j := 0) rfl sc_law_rooms.nd (c_list (e_bv 3)) (blkOk_by (own := [("size", 12)]) rfl) (fun s H C cl fp => g_name sc_law_rooms.nd) (fun s H C cl fp => ts_nil) (fun s H C cl fp => e_tup (a_cons (e_var 12) (a_cons e_bl a_nil)))))) (b_cons (s_setLc (j := 0) rfl sc_law_rooms.nd (by rfl) (c_range1 (by rfl) B.range_ (e_len (by rfl) B.len_ (e_bv 3))) (blkOk_by (own := [("place", 9)]) rfl) (fun s H C cl fp => g_name sc_law_rooms.nd) (fun s H C cl fp => ts_one (t_cmp op_notIn_seq (g_in true) (e_bv 9) (e_bv 2))) (fun s H C cl fp => e_var 9)) (b_cons (s_asg sc_law_rooms.nd (e_bin op_mod g_mod (e_intF (by rfl) B.int_ (e_ix ix_seq g_ix (e_bv 0) e_int)) (e_bin op_addA g_add (e_len (by rfl) B.len_ (e_bv 6)) e_int))) (b_cons (s_for PassesOwn.never rfl (i_seq (e_bin op_addA g_add (e_sl (e_bv 6) (o_some (e_bv 7)) o_none) (e_sl (e_bv 6) o_none (o_some (e_bv 7))))) (g_name sc_law_rooms.nd) (b_cons (s_asg sc_law_rooms.nd (e_fn (F_law_place.d (by omega)) hr (by rfl) (a_cons (e_bv 5) (a_cons (e_sum rfl (by rfl) B.sum_ (e_sl (e_bv 3) o_none (o_some (e_bv 8)))) a_nil)) pass0)) (b_cons (s_parN rfl (a_cons (e_fn (F_room_given.d (by omega)) hr (by rfl) (a_cons (e_bv 5) (a_cons (e_bv 9) a_nil)) pass0) (a_cons (e_fn (F_law_given.d (by omega)) hr (by rfl) (a_cons (e_bv 5) (a_cons (e_bv 9) a_nil)) pass0) a_nil)) ⟨pg_name (i := 10) sc_law_rooms.nd rfl (by first | exact Or.inl rfl | exact Or.inr rfl), rfl, ⟨pg_name (i := 5) sc_law_rooms.nd rfl (by first | exact Or.inl rfl | exact Or.inr rfl), rfl, trivial⟩⟩) (b_one (s_if (t_not (t_val (e_fn (F_law_like.d (by omega)) hr (by rfl) (a_cons (e_bv 10) (a_cons (e_bv 5) a_nil)) pass0))) (b_one (s_ret e_bl)) b_nil))))) (b_cons (s_setLc (j := 0) rfl sc_law_rooms.nd (by rfl) (c_seq (e_var 5)) (blkOk_by (own := [("size", 12), ("is_free", 16)]) rfl) (fun s H C cl fp => g_tup rfl (gs_cons (g_name sc_law_rooms.nd) (gs_cons (g_name sc_law_rooms.nd) gs_nil))) (fun s H C cl fp => ts_one (t_tru (e_bv 16))) (fun s H C cl fp => e_var 12)) (b_cons (s_if (t_not (t_val (e_fn (F_law_like.d (by omega)) hr (by rfl) (a_cons (e_fn (F_lost_room.d (by omega)) hr (by rfl) (a_cons (e_bv 5) a_nil) pass0) (a_cons (e_bin op_sub g_sub (e_sum rfl (by rfl) B.sum_ (e_bv 11)) (e_max rfl (by rfl) B.max_ (e_bin op_addA g_add (e_bv 11) (e_lst (a_cons e_int a_nil))))) a_nil)) pass0))) (b_one (s_ret e_bl)) b_nil) (b_cons (s_for PassesOwn.never rfl (i_range2 (by rfl) B.range_ e_int e_int) (g_name sc_law_rooms.nd) (b_cons (s_setLc (j := 0) rfl sc_law_rooms.nd (by rfl) (c_range1 (by rfl) B.range_ (e_len (by rfl) B.len_ (e_bv 5))) (blkOk_by (own := [("place", 9)]) rfl) (fun s H C cl fp => g_name sc_law_rooms.nd) (fun s H C cl fp => ts_one ((w_and (t_val (e_ix ix_seq g_ix (e_ix ix_seq g_ix (e_bv 5) (e_bv 9)) e_int)) (w_and1 (t_cmp op_ge g_cmpI (e_ix ix_seq g_ix (e_ix ix_seq g_ix (e_bv 5) (e_bv 9)) e_int) (e_bv 12)))).t)) (fun s H C cl fp => e_var 9)) (b_cons (s_setLc (j := 0) rfl sc_law_rooms.nd (by rfl) (c_list (e_bv 13)) (blkOk_by (own := [("place", 9)]) rfl) (fun s H C cl fp => g_name sc_law_rooms.nd) (fun s H C cl fp => ts_nil) (fun s H C cl fp => e_tup (a_cons (e_ix ix_seq g_ix (e_ix ix_seq g_ix (e_bv 5) (e_bv 9)) e_int) (a_cons (e_var 9) a_nil)))) (b_cons (s_if (t_not (t_val (e_fn (F_law_like.d (by omega)) hr (by rfl) (a_cons (e_fn (F_first_room.d (by omega)) hr (by rfl) (a_cons (e_bv 5) (a_cons (e_bv 12) a_nil)) pass0) (a_cons (e_ix ix_seq g_ix (e_bin op_addA g_add (e_bv 13) (e_lst (a_cons e_non a_nil))) e_int) a_nil)) pass0))) (b_one (s_ret e_bl)) b_nil) (b_cons (s_if (t_not (t_val (e_fn (F_law_like.d (by omega)) hr (by rfl) (a_cons (e_fn (F_best_room.d (by omega)) hr (by rfl) (a_cons (e_bv 5) (a_cons (e_bv 12) a_nil)) pass0) (a_cons (e_ix ix_seq g_ix (e_ix ix_seq g_ix (e_bin op_addA g_add (e_sorted hr.units (by rfl) B.sorted_ (e_bv 14)) (e_lst (a_cons (e_tup (a_cons e_int (a_cons e_non a_nil))) a_nil))) e_int) e_int) a_nil)) pass0))) (b_one (s_ret e_bl)) b_nil) (b_frz 13 (b_one (s_for PassesOwn.never rfl (i_seq (e_var 13)) (g_name sc_law_rooms.nd) (b_cons (s_asg sc_law_rooms.nd (e_sl (e_tup (a_cons (e_tup (a_cons (e_var 12) (a_cons e_bl a_nil))) (a_cons (e_tup (a_cons (e_bin op_sub g_sub (e_ix ix_seq g_ix (e_ix ix_seq g_ix (e_bv 5) (e_bv 9)) e_int) (e_bv 12)) (a_cons e_bl a_nil))) a_nil))) o_none (o_some (e_bin op_addA g_add e_int (e_intF (by rfl) B.int_ (e_cmp op_gt g_cmpI (e_ix ix_seq g_ix (e_ix ix_seq g_ix (e_bv 5) (e_bv 9)) e_int) (e_bv 12))))))) (b_one (s_if (t_not (t_val (e_fn (F_law_like.d (by omega)) hr (by rfl) (a_cons (e_fn (F_room_taken.d (by omega)) hr (by rfl) (a_cons (e_bv 5) (a_cons (e_bv 9) (a_cons (e_bv 12) a_nil))) pass0) (a_cons (e_bin op_addA g_add (e_bin op_addA g_add (e_sl (e_bv 5) o_none (o_some (e_bv 9))) (e_bv 15)) (e_sl (e_bv 5) (o_some (e_bin op_addA g_add (e_bv 9) e_int)) o_none)) a_nil)) pass0))) (b_one (s_ret e_bl)) b_nil))))))))))) (b_one (s_ret e_bl))))))))))
set_option maxHeartbeats 1000000 in
theorem ok_law {f fd} (F : Fun K "law" "law" s_law f fd) (B : MG mg) (F_law_row : FnG P w K mg base 2 "_law_row" m_law_row []) (F_law_heap : FnG P w K mg base 2 "_law_heap" m_law_heap []) (F_law_judged : FnG P w K mg base 8 "_law_judged" m_law_judged []) (F_law_swept : FnG P w K mg base 8 "_law_swept" m_law_swept []) (F_law_rooms : FnG P w K mg base 8 "_law_rooms" m_law_rooms []) : FnOk P w K mg base CX0 9 f fd ["script"] (spD K m_law) :=
  fnM F sc_law fun cdv A outer s H hr => b_cons (s_asg sc_law.nd (e_fn (F_law_row.d (by omega)) hr (by rfl) (a_cons (e_bv 0) (a_cons e_int a_nil)) pass0)) (b_cons (s_asg sc_law.nd (e_fn (F_law_heap.d (by omega)) hr (by rfl) (a_cons (e_bv 1) (a_cons (e_bin op_addA g_add e_int (e_bin op_mod g_mod (e_intF (by rfl) B.int_ (e_ix ix_seq g_ix (e_bv 1) e_int)) e_int)) a_nil)) pass0)) (b_one (s_ret (e_and (e_fn (F_law_judged.d (by omega)) hr (by rfl) (a_cons (e_bv 2) a_nil) pass0) (e_and (e_fn (F_law_swept.d (by omega)) hr (by rfl) (a_cons (e_bv 1) (a_cons (e_bv 2) a_nil)) pass0) (e_one (e_fn (F_law_rooms.d (by omega)) hr (by rfl) (a_cons (e_bv 1) (a_cons (e_bv 2) a_nil)) pass0)))))))
end
end K35
set_option Elab.async false
set_option linter.all false
set_option maxRecDepth 100000
namespace K35
open PySem PySem.Spec PyProof.Rows L2 Pv
theorem ret_bl {K : PySem.W.Frag} {H H' : Hp} {b : Bool} {v : V} (h : RetOk K H (0, .bl b) v H') : v = .bl b := by obtain ⟨G, F, _, _, r, _⟩ := h; exact r.bl
set_option maxHeartbeats 0 in
theorem all_mk {l : PySem.W.OpenLaw} {w : World} {K : PySem.W.Frag} {h : Heap} {mg : Str → Option Value} {fa : Addr} (X : K.In h) (G : h.Ns mainGlobals mg) (hfa : mg "law" = some (.ref fa))
    {f0 : Addr} {od0 an0 : Option Addr} {sl0 : Array (Option Value)} {oc0 kV0 dc0 pm0 cd0 ct0 : Value}
    {f1 : Addr} {od1 an1 : Option Addr} {sl1 : Array (Option Value)} {oc1 kV1 dc1 pm1 cd1 ct1 : Value}
    {f2 : Addr} {od2 an2 : Option Addr} {sl2 : Array (Option Value)} {oc2 kV2 dc2 pm2 cd2 ct2 : Value}
    {f3 : Addr} {od3 an3 : Option Addr} {sl3 : Array (Option Value)} {oc3 kV3 dc3 pm3 cd3 ct3 : Value}
    {f4 : Addr} {od4 an4 : Option Addr} {sl4 : Array (Option Value)} {oc4 kV4 dc4 pm4 cd4 ct4 : Value}
    {f5 : Addr} {od5 an5 : Option Addr} {sl5 : Array (Option Value)} {oc5 kV5 dc5 pm5 cd5 ct5 : Value}
    {f6 : Addr} {od6 an6 : Option Addr} {sl6 : Array (Option Value)} {oc6 kV6 dc6 pm6 cd6 ct6 : Value}
    {f7 : Addr} {od7 an7 : Option Addr} {sl7 : Array (Option Value)} {oc7 kV7 dc7 pm7 cd7 ct7 : Value}
    {f8 : Addr} {od8 an8 : Option Addr} {sl8 : Array (Option Value)} {oc8 kV8 dc8 pm8 cd8 ct8 : Value}
    {f9 : Addr} {od9 an9 : Option Addr} {sl9 : Array (Option Value)} {oc9 kV9 dc9 pm9 cd9 ct9 : Value}
    {f10 : Addr} {od10 an10 : Option Addr} {sl10 : Array (Option Value)} {oc10 kV10 dc10 pm10 cd10 ct10 : Value}
    {f11 : Addr} {od11 an11 : Option Addr} {sl11 : Array (Option Value)} {oc11 kV11 dc11 pm11 cd11 ct11 : Value}
    {f12 : Addr} {od12 an12 : Option Addr} {sl12 : Array (Option Value)} {oc12 kV12 dc12 pm12 cd12 ct12 : Value}
    {f13 : Addr} {od13 an13 : Option Addr} {sl13 : Array (Option Value)} {oc13 kV13 dc13 pm13 cd13 ct13 : Value}
    {f14 : Addr} {od14 an14 : Option Addr} {sl14 : Array (Option Value)} {oc14 kV14 dc14 pm14 cd14 ct14 : Value}
    {f15 : Addr} {od15 an15 : Option Addr} {sl15 : Array (Option Value)} {oc15 kV15 dc15 pm15 cd15 ct15 : Value}
    {f16 : Addr} {od16 an16 : Option Addr} {sl16 : Array (Option Value)} {oc16 kV16 dc16 pm16 cd16 ct16 : Value}
    {f17 : Addr} {od17 an17 : Option Addr} {sl17 : Array (Option Value)} {oc17 kV17 dc17 pm17 cd17 ct17 : Value}
    {T17 : Addr} {cT17 : Value} {oT17 : Option Addr} {sT17 : Array (Option Value)} {nT17 : Nat} {U17_0 : Addr} {nU17_0 : Nat} {sU17_0 : Array (Option Value)}
    {f18 : Addr} {od18 an18 : Option Addr} {sl18 : Array (Option Value)} {oc18 kV18 dc18 pm18 cd18 ct18 : Value}
    {f19 : Addr} {od19 an19 : Option Addr} {sl19 : Array (Option Value)} {oc19 kV19 dc19 pm19 cd19 ct19 : Value}
    {f20 : Addr} {od20 an20 : Option Addr} {sl20 : Array (Option Value)} {oc20 kV20 dc20 pm20 cd20 ct20 : Value}
    {f21 : Addr} {od21 an21 : Option Addr} {sl21 : Array (Option Value)} {oc21 kV21 dc21 pm21 cd21 ct21 : Value}
    {f22 : Addr} {od22 an22 : Option Addr} {sl22 : Array (Option Value)} {oc22 kV22 dc22 pm22 cd22 ct22 : Value}
    {f23 : Addr} {od23 an23 : Option Addr} {sl23 : Array (Option Value)} {oc23 kV23 dc23 pm23 cd23 ct23 : Value}
    {f24 : Addr} {od24 an24 : Option Addr} {sl24 : Array (Option Value)} {oc24 kV24 dc24 pm24 cd24 ct24 : Value}
    {f25 : Addr} {od25 an25 : Option Addr} {sl25 : Array (Option Value)} {oc25 kV25 dc25 pm25 cd25 ct25 : Value}
    {f26 : Addr} {od26 an26 : Option Addr} {sl26 : Array (Option Value)} {oc26 kV26 dc26 pm26 cd26 ct26 : Value}
    {f27 : Addr} {od27 an27 : Option Addr} {sl27 : Array (Option Value)} {oc27 kV27 dc27 pm27 cd27 ct27 : Value}
    {f28 : Addr} {od28 an28 : Option Addr} {sl28 : Array (Option Value)} {oc28 kV28 dc28 pm28 cd28 ct28 : Value}
    {f29 : Addr} {od29 an29 : Option Addr} {sl29 : Array (Option Value)} {oc29 kV29 dc29 pm29 cd29 ct29 : Value}
    {f30 : Addr} {od30 an30 : Option Addr} {sl30 : Array (Option Value)} {oc30 kV30 dc30 pm30 cd30 ct30 : Value}
    {f31 : Addr} {od31 an31 : Option Addr} {sl31 : Array (Option Value)} {oc31 kV31 dc31 pm31 cd31 ct31 : Value}
    {f32 : Addr} {od32 an32 : Option Addr} {sl32 : Array (Option Value)} {oc32 kV32 dc32 pm32 cd32 ct32 : Value}
    {f33 : Addr} {od33 an33 : Option Addr} {sl33 : Array (Option Value)} {oc33 kV33 dc33 pm33 cd33 ct33 : Value}
    {f34 : Addr} {od34 an34 : Option Addr} {sl34 : Array (Option Value)} {oc34 kV34 dc34 pm34 cd34 ct34 : Value}
    {f35 : Addr} {od35 an35 : Option Addr} {sl35 : Array (Option Value)} {oc35 kV35 dc35 pm35 cd35 ct35 : Value}
    {f36 : Addr} {od36 an36 : Option Addr} {sl36 : Array (Option Value)} {oc36 kV36 dc36 pm36 cd36 ct36 : Value}
    {t_MOST_CELLS : Tok}
    {t_MOST_FIELDS : Tok}
    {t_MOST_ROOTS : Tok}
    (a0 : PySem.W.nsIn K mainGlobals "_law_mixed" = some (some (.ref f0))) (l0 : K.lookup f0 = some ⟨oc0, od0, .func (PySem.W.fnOf "_law_mixed" "_law_mixed" (defArgs s_law_mixed) (defBody s_law_mixed) (defScope s_law_mixed) .none kV0 dc0 pm0 an0 cd0 ct0), sl0⟩) (c0 : PySem.W.codeIn K cd0 "_law_mixed" = true) (k0 : PySem.W.keepIn K (.ref f0) = true)
    (a1 : PySem.W.nsIn K mainGlobals "_law_row" = some (some (.ref f1))) (l1 : K.lookup f1 = some ⟨oc1, od1, .func (PySem.W.fnOf "_law_row" "_law_row" (defArgs s_law_row) (defBody s_law_row) (defScope s_law_row) .none kV1 dc1 pm1 an1 cd1 ct1), sl1⟩) (c1 : PySem.W.codeIn K cd1 "_law_row" = true) (k1 : PySem.W.keepIn K (.ref f1) = true)
    (a2 : PySem.W.nsIn K mainGlobals "_law_field" = some (some (.ref f2))) (l2 : K.lookup f2 = some ⟨oc2, od2, .func (PySem.W.fnOf "_law_field" "_law_field" (defArgs s_law_field) (defBody s_law_field) (defScope s_law_field) .none kV2 dc2 pm2 an2 cd2 ct2), sl2⟩) (c2 : PySem.W.codeIn K cd2 "_law_field" = true) (k2 : PySem.W.keepIn K (.ref f2) = true)
    (a3 : PySem.W.nsIn K mainGlobals "_law_heap" = some (some (.ref f3))) (l3 : K.lookup f3 = some ⟨oc3, od3, .func (PySem.W.fnOf "_law_heap" "_law_heap" (defArgs s_law_heap) (defBody s_law_heap) (defScope s_law_heap) .none kV3 dc3 pm3 an3 cd3 ct3), sl3⟩) (c3 : PySem.W.codeIn K cd3 "_law_heap" = true) (k3 : PySem.W.keepIn K (.ref f3) = true)
    (a4 : PySem.W.nsIn K mainGlobals "_law_is_int" = some (some (.ref f4))) (l4 : K.lookup f4 = some ⟨oc4, od4, .func (PySem.W.fnOf "_law_is_int" "_law_is_int" (defArgs s_law_is_int) (defBody s_law_is_int) (defScope s_law_is_int) .none kV4 dc4 pm4 an4 cd4 ct4), sl4⟩) (c4 : PySem.W.codeIn K cd4 "_law_is_int" = true) (k4 : PySem.W.keepIn K (.ref f4) = true)
    (a5 : PySem.W.nsIn K mainGlobals "_law_like" = some (some (.ref f5))) (l5 : K.lookup f5 = some ⟨oc5, od5, .func (PySem.W.fnOf "_law_like" "_law_like" (defArgs s_law_like) (defBody s_law_like) (defScope s_law_like) .none kV5 dc5 pm5 an5 cd5 ct5), sl5⟩) (c5 : PySem.W.codeIn K cd5 "_law_like" = true) (k5 : PySem.W.keepIn K (.ref f5) = true)
    (a6 : PySem.W.nsIn K mainGlobals "is_number" = some (some (.ref f6))) (l6 : K.lookup f6 = some ⟨oc6, od6, .func (PySem.W.fnOf "is_number" "is_number" (defArgs s_is_number) (defBody s_is_number) (defScope s_is_number) .none kV6 dc6 pm6 an6 cd6 ct6), sl6⟩) (c6 : PySem.W.codeIn K cd6 "is_number" = true) (k6 : PySem.W.keepIn K (.ref f6) = true)
    (a7 : PySem.W.nsIn K mainGlobals "_is_link" = some (some (.ref f7))) (l7 : K.lookup f7 = some ⟨oc7, od7, .func (PySem.W.fnOf "_is_link" "_is_link" (defArgs s_is_link) (defBody s_is_link) (defScope s_is_link) .none kV7 dc7 pm7 an7 cd7 ct7), sl7⟩) (c7 : PySem.W.codeIn K cd7 "_is_link" = true) (k7 : PySem.W.keepIn K (.ref f7) = true)
    (a8 : PySem.W.nsIn K mainGlobals "_is_field" = some (some (.ref f8))) (l8 : K.lookup f8 = some ⟨oc8, od8, .func (PySem.W.fnOf "_is_field" "_is_field" (defArgs s_is_field) (defBody s_is_field) (defScope s_is_field) .none kV8 dc8 pm8 an8 cd8 ct8), sl8⟩) (c8 : PySem.W.codeIn K cd8 "_is_field" = true) (k8 : PySem.W.keepIn K (.ref f8) = true)
    (a9 : PySem.W.nsIn K mainGlobals "_is_cell" = some (some (.ref f9))) (l9 : K.lookup f9 = some ⟨oc9, od9, .func (PySem.W.fnOf "_is_cell" "_is_cell" (defArgs s_is_cell) (defBody s_is_cell) (defScope s_is_cell) .none kV9 dc9 pm9 an9 cd9 ct9), sl9⟩) (c9 : PySem.W.codeIn K cd9 "_is_cell" = true) (k9 : PySem.W.keepIn K (.ref f9) = true)
    (a10 : PySem.W.nsIn K mainGlobals "is_heap" = some (some (.ref f10))) (l10 : K.lookup f10 = some ⟨oc10, od10, .func (PySem.W.fnOf "is_heap" "is_heap" (defArgs s_is_heap) (defBody s_is_heap) (defScope s_is_heap) .none kV10 dc10 pm10 an10 cd10 ct10), sl10⟩) (c10 : PySem.W.codeIn K cd10 "is_heap" = true) (k10 : PySem.W.keepIn K (.ref f10) = true)
    (a11 : PySem.W.nsIn K mainGlobals "_law_judged" = some (some (.ref f11))) (l11 : K.lookup f11 = some ⟨oc11, od11, .func (PySem.W.fnOf "_law_judged" "_law_judged" (defArgs s_law_judged) (defBody s_law_judged) (defScope s_law_judged) .none kV11 dc11 pm11 an11 cd11 ct11), sl11⟩) (c11 : PySem.W.codeIn K cd11 "_law_judged" = true) (k11 : PySem.W.keepIn K (.ref f11) = true)
    (a12 : PySem.W.nsIn K mainGlobals "_law_held" = some (some (.ref f12))) (l12 : K.lookup f12 = some ⟨oc12, od12, .func (PySem.W.fnOf "_law_held" "_law_held" (defArgs s_law_held) (defBody s_law_held) (defScope s_law_held) .none kV12 dc12 pm12 an12 cd12 ct12), sl12⟩) (c12 : PySem.W.codeIn K cd12 "_law_held" = true) (k12 : PySem.W.keepIn K (.ref f12) = true)
    (a13 : PySem.W.nsIn K mainGlobals "_law_met" = some (some (.ref f13))) (l13 : K.lookup f13 = some ⟨oc13, od13, .func (PySem.W.fnOf "_law_met" "_law_met" (defArgs s_law_met) (defBody s_law_met) (defScope s_law_met) .none kV13 dc13 pm13 an13 cd13 ct13), sl13⟩) (c13 : PySem.W.codeIn K cd13 "_law_met" = true) (k13 : PySem.W.keepIn K (.ref f13) = true)
    (a14 : PySem.W.nsIn K mainGlobals "_is_address" = some (some (.ref f14))) (l14 : K.lookup f14 = some ⟨oc14, od14, .func (PySem.W.fnOf "_is_address" "_is_address" (defArgs s_is_address) (defBody s_is_address) (defScope s_is_address) .none kV14 dc14 pm14 an14 cd14 ct14), sl14⟩) (c14 : PySem.W.codeIn K cd14 "_is_address" = true) (k14 : PySem.W.keepIn K (.ref f14) = true)
    (a15 : PySem.W.nsIn K mainGlobals "_moved" = some (some (.ref f15))) (l15 : K.lookup f15 = some ⟨oc15, od15, .func (PySem.W.fnOf "_moved" "_moved" (defArgs s_moved) (defBody s_moved) (defScope s_moved) .none kV15 dc15 pm15 an15 cd15 ct15), sl15⟩) (c15 : PySem.W.codeIn K cd15 "_moved" = true) (k15 : PySem.W.keepIn K (.ref f15) = true)
    (a16 : PySem.W.nsIn K mainGlobals "_held" = some (some (.ref f16))) (l16 : K.lookup f16 = some ⟨oc16, od16, .func (PySem.W.fnOf "_held" "_held" (defArgs s_held) (defBody s_held) (defScope s_held) .none kV16 dc16 pm16 an16 cd16 ct16), sl16⟩) (c16 : PySem.W.codeIn K cd16 "_held" = true) (k16 : PySem.W.keepIn K (.ref f16) = true)
    (a17 : PySem.W.nsIn K mainGlobals "_met_cells" = some (some (.ref f17))) (l17 : K.lookup f17 = some ⟨oc17, od17, .func (PySem.W.fnOf "_met_cells" "_met_cells" (defArgs s_met_cells) (defBody s_met_cells) (defScope s_met_cells) (.ref T17) kV17 dc17 pm17 an17 cd17 ct17), sl17⟩) (c17 : PySem.W.codeIn K cd17 "_met_cells" = true) (k17 : PySem.W.keepIn K (.ref f17) = true) (lT17 : K.lookup T17 = some ⟨cT17, oT17, .seq #[.ref U17_0] nT17, sT17⟩) (lU17_0 : K.lookup U17_0 = some ⟨.type "tuple", none, .seq #[] nU17_0, sU17_0⟩)
    (a18 : PySem.W.nsIn K mainGlobals "reached_cells" = some (some (.ref f18))) (l18 : K.lookup f18 = some ⟨oc18, od18, .func (PySem.W.fnOf "reached_cells" "reached_cells" (defArgs s_reached_cells) (defBody s_reached_cells) (defScope s_reached_cells) .none kV18 dc18 pm18 an18 cd18 ct18), sl18⟩) (c18 : PySem.W.codeIn K cd18 "reached_cells" = true) (k18 : PySem.W.keepIn K (.ref f18) = true)
    (a19 : PySem.W.nsIn K mainGlobals "slid_heap" = some (some (.ref f19))) (l19 : K.lookup f19 = some ⟨oc19, od19, .func (PySem.W.fnOf "slid_heap" "slid_heap" (defArgs s_slid_heap) (defBody s_slid_heap) (defScope s_slid_heap) .none kV19 dc19 pm19 an19 cd19 ct19), sl19⟩) (c19 : PySem.W.codeIn K cd19 "slid_heap" = true) (k19 : PySem.W.keepIn K (.ref f19) = true)
    (a20 : PySem.W.nsIn K mainGlobals "_law_turned" = some (some (.ref f20))) (l20 : K.lookup f20 = some ⟨oc20, od20, .func (PySem.W.fnOf "_law_turned" "_law_turned" (defArgs s_law_turned) (defBody s_law_turned) (defScope s_law_turned) .none kV20 dc20 pm20 an20 cd20 ct20), sl20⟩) (c20 : PySem.W.codeIn K cd20 "_law_turned" = true) (k20 : PySem.W.keepIn K (.ref f20) = true)
    (a21 : PySem.W.nsIn K mainGlobals "_law_moved" = some (some (.ref f21))) (l21 : K.lookup f21 = some ⟨oc21, od21, .func (PySem.W.fnOf "_law_moved" "_law_moved" (defArgs s_law_moved) (defBody s_law_moved) (defScope s_law_moved) .none kV21 dc21 pm21 an21 cd21 ct21), sl21⟩) (c21 : PySem.W.codeIn K cd21 "_law_moved" = true) (k21 : PySem.W.keepIn K (.ref f21) = true)
    (a22 : PySem.W.nsIn K mainGlobals "_law_bare" = some (some (.ref f22))) (l22 : K.lookup f22 = some ⟨oc22, od22, .func (PySem.W.fnOf "_law_bare" "_law_bare" (defArgs s_law_bare) (defBody s_law_bare) (defScope s_law_bare) .none kV22 dc22 pm22 an22 cd22 ct22), sl22⟩) (c22 : PySem.W.codeIn K cd22 "_law_bare" = true) (k22 : PySem.W.keepIn K (.ref f22) = true)
    (a23 : PySem.W.nsIn K mainGlobals "same_heap" = some (some (.ref f23))) (l23 : K.lookup f23 = some ⟨oc23, od23, .func (PySem.W.fnOf "same_heap" "same_heap" (defArgs s_same_heap) (defBody s_same_heap) (defScope s_same_heap) .none kV23 dc23 pm23 an23 cd23 ct23), sl23⟩) (c23 : PySem.W.codeIn K cd23 "same_heap" = true) (k23 : PySem.W.keepIn K (.ref f23) = true)
    (a24 : PySem.W.nsIn K mainGlobals "marked_swept" = some (some (.ref f24))) (l24 : K.lookup f24 = some ⟨oc24, od24, .func (PySem.W.fnOf "marked_swept" "marked_swept" (defArgs s_marked_swept) (defBody s_marked_swept) (defScope s_marked_swept) .none kV24 dc24 pm24 an24 cd24 ct24), sl24⟩) (c24 : PySem.W.codeIn K cd24 "marked_swept" = true) (k24 : PySem.W.keepIn K (.ref f24) = true)
    (a25 : PySem.W.nsIn K mainGlobals "copied_heap" = some (some (.ref f25))) (l25 : K.lookup f25 = some ⟨oc25, od25, .func (PySem.W.fnOf "copied_heap" "copied_heap" (defArgs s_copied_heap) (defBody s_copied_heap) (defScope s_copied_heap) .none kV25 dc25 pm25 an25 cd25 ct25), sl25⟩) (c25 : PySem.W.codeIn K cd25 "copied_heap" = true) (k25 : PySem.W.keepIn K (.ref f25) = true)
    (a26 : PySem.W.nsIn K mainGlobals "shape_of" = some (some (.ref f26))) (l26 : K.lookup f26 = some ⟨oc26, od26, .func (PySem.W.fnOf "shape_of" "shape_of" (defArgs s_shape_of) (defBody s_shape_of) (defScope s_shape_of) .none kV26 dc26 pm26 an26 cd26 ct26), sl26⟩) (c26 : PySem.W.codeIn K cd26 "shape_of" = true) (k26 : PySem.W.keepIn K (.ref f26) = true)
    (a27 : PySem.W.nsIn K mainGlobals "_law_swept" = some (some (.ref f27))) (l27 : K.lookup f27 = some ⟨oc27, od27, .func (PySem.W.fnOf "_law_swept" "_law_swept" (defArgs s_law_swept) (defBody s_law_swept) (defScope s_law_swept) .none kV27 dc27 pm27 an27 cd27 ct27), sl27⟩) (c27 : PySem.W.codeIn K cd27 "_law_swept" = true) (k27 : PySem.W.keepIn K (.ref f27) = true)
    (a28 : PySem.W.nsIn K mainGlobals "_law_place" = some (some (.ref f28))) (l28 : K.lookup f28 = some ⟨oc28, od28, .func (PySem.W.fnOf "_law_place" "_law_place" (defArgs s_law_place) (defBody s_law_place) (defScope s_law_place) .none kV28 dc28 pm28 an28 cd28 ct28), sl28⟩) (c28 : PySem.W.codeIn K cd28 "_law_place" = true) (k28 : PySem.W.keepIn K (.ref f28) = true)
    (a29 : PySem.W.nsIn K mainGlobals "room_given" = some (some (.ref f29))) (l29 : K.lookup f29 = some ⟨oc29, od29, .func (PySem.W.fnOf "room_given" "room_given" (defArgs s_room_given) (defBody s_room_given) (defScope s_room_given) .none kV29 dc29 pm29 an29 cd29 ct29), sl29⟩) (c29 : PySem.W.codeIn K cd29 "room_given" = true) (k29 : PySem.W.keepIn K (.ref f29) = true)
    (a30 : PySem.W.nsIn K mainGlobals "_law_given" = some (some (.ref f30))) (l30 : K.lookup f30 = some ⟨oc30, od30, .func (PySem.W.fnOf "_law_given" "_law_given" (defArgs s_law_given) (defBody s_law_given) (defScope s_law_given) .none kV30 dc30 pm30 an30 cd30 ct30), sl30⟩) (c30 : PySem.W.codeIn K cd30 "_law_given" = true) (k30 : PySem.W.keepIn K (.ref f30) = true)
    (a31 : PySem.W.nsIn K mainGlobals "lost_room" = some (some (.ref f31))) (l31 : K.lookup f31 = some ⟨oc31, od31, .func (PySem.W.fnOf "lost_room" "lost_room" (defArgs s_lost_room) (defBody s_lost_room) (defScope s_lost_room) .none kV31 dc31 pm31 an31 cd31 ct31), sl31⟩) (c31 : PySem.W.codeIn K cd31 "lost_room" = true) (k31 : PySem.W.keepIn K (.ref f31) = true)
    (a32 : PySem.W.nsIn K mainGlobals "first_room" = some (some (.ref f32))) (l32 : K.lookup f32 = some ⟨oc32, od32, .func (PySem.W.fnOf "first_room" "first_room" (defArgs s_first_room) (defBody s_first_room) (defScope s_first_room) .none kV32 dc32 pm32 an32 cd32 ct32), sl32⟩) (c32 : PySem.W.codeIn K cd32 "first_room" = true) (k32 : PySem.W.keepIn K (.ref f32) = true)
    (a33 : PySem.W.nsIn K mainGlobals "best_room" = some (some (.ref f33))) (l33 : K.lookup f33 = some ⟨oc33, od33, .func (PySem.W.fnOf "best_room" "best_room" (defArgs s_best_room) (defBody s_best_room) (defScope s_best_room) .none kV33 dc33 pm33 an33 cd33 ct33), sl33⟩) (c33 : PySem.W.codeIn K cd33 "best_room" = true) (k33 : PySem.W.keepIn K (.ref f33) = true)
    (a34 : PySem.W.nsIn K mainGlobals "room_taken" = some (some (.ref f34))) (l34 : K.lookup f34 = some ⟨oc34, od34, .func (PySem.W.fnOf "room_taken" "room_taken" (defArgs s_room_taken) (defBody s_room_taken) (defScope s_room_taken) .none kV34 dc34 pm34 an34 cd34 ct34), sl34⟩) (c34 : PySem.W.codeIn K cd34 "room_taken" = true) (k34 : PySem.W.keepIn K (.ref f34) = true)
    (a35 : PySem.W.nsIn K mainGlobals "_law_rooms" = some (some (.ref f35))) (l35 : K.lookup f35 = some ⟨oc35, od35, .func (PySem.W.fnOf "_law_rooms" "_law_rooms" (defArgs s_law_rooms) (defBody s_law_rooms) (defScope s_law_rooms) .none kV35 dc35 pm35 an35 cd35 ct35), sl35⟩) (c35 : PySem.W.codeIn K cd35 "_law_rooms" = true) (k35 : PySem.W.keepIn K (.ref f35) = true)
    (a36 : PySem.W.nsIn K mainGlobals "law" = some (some (.ref f36))) (l36 : K.lookup f36 = some ⟨oc36, od36, .func (PySem.W.fnOf "law" "law" (defArgs s_law) (defBody s_law) (defScope s_law) .none kV36 dc36 pm36 an36 cd36 ct36), sl36⟩) (c36 : PySem.W.codeIn K cd36 "law" = true) (k36 : PySem.W.keepIn K (.ref f36) = true)
    (z_all : PySem.W.nsIn K mainGlobals "all" = some none)
    (z_bool : PySem.W.nsIn K mainGlobals "bool" = some none)
    (z_enumerate : PySem.W.nsIn K mainGlobals "enumerate" = some none)
    (z_int : PySem.W.nsIn K mainGlobals "int" = some none)
    (z_isinstance : PySem.W.nsIn K mainGlobals "isinstance" = some none)
    (z_len : PySem.W.nsIn K mainGlobals "len" = some none)
    (z_list : PySem.W.nsIn K mainGlobals "list" = some none)
    (z_max : PySem.W.nsIn K mainGlobals "max" = some none)
    (z_range : PySem.W.nsIn K mainGlobals "range" = some none)
    (z_sorted : PySem.W.nsIn K mainGlobals "sorted" = some none)
    (z_str : PySem.W.nsIn K mainGlobals "str" = some none)
    (z_sum : PySem.W.nsIn K mainGlobals "sum" = some none)
    (z_tuple : PySem.W.nsIn K mainGlobals "tuple" = some none)
    (z_zip : PySem.W.nsIn K mainGlobals "zip" = some none)
    (a_MOST_CELLS : PySem.W.nsIn K mainGlobals "MOST_CELLS" = some (some (.int 12 t_MOST_CELLS)))
    (a_MOST_FIELDS : PySem.W.nsIn K mainGlobals "MOST_FIELDS" = some (some (.int 4 t_MOST_FIELDS)))
    (a_MOST_ROOTS : PySem.W.nsIn K mainGlobals "MOST_ROOTS" = some (some (.int 4 t_MOST_ROOTS)))
    : ∃ fd : FuncData, (∀ (s : Shared) (v : Value), BindsTo s fd ⟨[v], []⟩ [("script", v)]) ∧ ∀ base : Heap, K.In base → base.Ns mainGlobals mg → FnOk l.prog w K mg base CX0 9 fa fd ["script"] (spD K m_law) := by
  have e := hfa.symm.trans (PySem.W.mg_of X G a36)
  cases e
  have F0 := fun_mk (st := s_law_mixed) l0 c0 k0
  have b0 := F0.binds (ps := ["script", "k"]) fun _ _ _ _ _ _ us hl => match us, hl with | [_, _], _ => rfl
  have F1 := fun_mk (st := s_law_row) l1 c1 k1
  have b1 := F1.binds (ps := ["script", "many"]) fun _ _ _ _ _ _ us hl => match us, hl with | [_, _], _ => rfl
  have F2 := fun_mk (st := s_law_field) l2 c2 k2
  have b2 := F2.binds (ps := ["cell", "live"]) fun _ _ _ _ _ _ us hl => match us, hl with | [_, _], _ => rfl
  have F3 := fun_mk (st := s_law_heap) l3 c3 k3
  have b3 := F3.binds (ps := ["row", "count"]) fun _ _ _ _ _ _ us hl => match us, hl with | [_, _], _ => rfl
  have F4 := fun_mk (st := s_law_is_int) l4 c4 k4
  have b4 := F4.binds (ps := ["value"]) fun _ _ _ _ _ _ us hl => match us, hl with | [_], _ => rfl
  have F5 := fun_mk (st := s_law_like) l5 c5 k5
  have b5 := F5.binds (ps := ["value", "due"]) fun _ _ _ _ _ _ us hl => match us, hl with | [_, _], _ => rfl
  have F6 := fun_mk (st := s_is_number) l6 c6 k6
  have b6 := F6.binds (ps := ["worth"]) fun _ _ _ _ _ _ us hl => match us, hl with | [_], _ => rfl
  have F7 := fun_mk (st := s_is_link) l7 c7 k7
  have b7 := F7.binds (ps := ["cells", "link"]) fun _ _ _ _ _ _ us hl => match us, hl with | [_, _], _ => rfl
  have F8 := fun_mk (st := s_is_field) l8 c8 k8
  have b8 := F8.binds (ps := ["cells", "field"]) fun _ _ _ _ _ _ us hl => match us, hl with | [_, _], _ => rfl
  have F9 := fun_mk (st := s_is_cell) l9 c9 k9
  have b9 := F9.binds (ps := ["cells", "cell"]) fun _ _ _ _ _ _ us hl => match us, hl with | [_, _], _ => rfl
  have F10 := fun_mk (st := s_is_heap) l10 c10 k10
  have b10 := F10.binds (ps := ["value"]) fun _ _ _ _ _ _ us hl => match us, hl with | [_], _ => rfl
  have F11 := fun_mk (st := s_law_judged) l11 c11 k11
  have b11 := F11.binds (ps := ["heap"]) fun _ _ _ _ _ _ us hl => match us, hl with | [_], _ => rfl
  have F12 := fun_mk (st := s_law_held) l12 c12 k12
  have b12 := F12.binds (ps := ["cell"]) fun _ _ _ _ _ _ us hl => match us, hl with | [_], _ => rfl
  have F13 := fun_mk (st := s_law_met) l13 c13 k13
  have b13 := F13.binds (ps := ["cells", "starts"]) fun _ _ _ _ _ _ us hl => match us, hl with | [_, _], _ => rfl
  have F14 := fun_mk (st := s_is_address) l14 c14 k14
  have b14 := F14.binds (ps := ["field"]) fun _ _ _ _ _ _ us hl => match us, hl with | [_], _ => rfl
  have F15 := fun_mk (st := s_moved) l15 c15 k15
  have b15 := F15.binds (ps := ["heap", "order"]) fun _ _ _ _ _ _ us hl => match us, hl with | [_, _], _ => rfl
  have F16 := fun_mk (st := s_held) l16 c16 k16
  have b16 := F16.binds (ps := ["cell"]) fun _ _ _ _ _ _ us hl => match us, hl with | [_], _ => rfl
  have F17 := fund_mk (st := s_met_cells) (dvs := [V.ref U17_0]) (its := [.ref U17_0]) l17 c17 k17 lT17 (.cons rfl .nil) (by simp)
  obtain ⟨du17, v17, b17⟩ := F17.binds1 (ps := ["cells", "starts", "shut"]) 2 0 (by simp) rfl fun _ _ _ _ _ _ _ us its hu hi => match us, its, hu, hi with | [_, _], [_], _, _ => ⟨_, rfl, rfl⟩
  have F18 := fun_mk (st := s_reached_cells) l18 c18 k18
  have b18 := F18.binds (ps := ["heap"]) fun _ _ _ _ _ _ us hl => match us, hl with | [_], _ => rfl
  have F19 := fun_mk (st := s_slid_heap) l19 c19 k19
  have b19 := F19.binds (ps := ["heap"]) fun _ _ _ _ _ _ us hl => match us, hl with | [_], _ => rfl
  have F20 := fun_mk (st := s_law_turned) l20 c20 k20
  have b20 := F20.binds (ps := ["row", "heap"]) fun _ _ _ _ _ _ us hl => match us, hl with | [_, _], _ => rfl
  have F21 := fun_mk (st := s_law_moved) l21 c21 k21
  have b21 := F21.binds (ps := ["heap", "order"]) fun _ _ _ _ _ _ us hl => match us, hl with | [_, _], _ => rfl
  have F22 := fun_mk (st := s_law_bare) l22 c22 k22
  have b22 := F22.binds (ps := ["heap"]) fun _ _ _ _ _ _ us hl => match us, hl with | [_], _ => rfl
  have F23 := fun_mk (st := s_same_heap) l23 c23 k23
  have b23 := F23.binds (ps := ["first", "second"]) fun _ _ _ _ _ _ us hl => match us, hl with | [_, _], _ => rfl
  have F24 := fun_mk (st := s_marked_swept) l24 c24 k24
  have b24 := F24.binds (ps := ["heap"]) fun _ _ _ _ _ _ us hl => match us, hl with | [_], _ => rfl
  have F25 := fun_mk (st := s_copied_heap) l25 c25 k25
  have b25 := F25.binds (ps := ["heap"]) fun _ _ _ _ _ _ us hl => match us, hl with | [_], _ => rfl
  have F26 := fun_mk (st := s_shape_of) l26 c26 k26
  have b26 := F26.binds (ps := ["heap"]) fun _ _ _ _ _ _ us hl => match us, hl with | [_], _ => rfl
  have F27 := fun_mk (st := s_law_swept) l27 c27 k27
  have b27 := F27.binds (ps := ["row", "heap"]) fun _ _ _ _ _ _ us hl => match us, hl with | [_, _], _ => rfl
  have F28 := fun_mk (st := s_law_place) l28 c28 k28
  have b28 := F28.binds (ps := ["rooms", "begin"]) fun _ _ _ _ _ _ us hl => match us, hl with | [_, _], _ => rfl
  have F29 := fun_mk (st := s_room_given) l29 c29 k29
  have b29 := F29.binds (ps := ["rooms", "place"]) fun _ _ _ _ _ _ us hl => match us, hl with | [_, _], _ => rfl
  have F30 := fun_mk (st := s_law_given) l30 c30 k30
  have b30 := F30.binds (ps := ["rooms", "place"]) fun _ _ _ _ _ _ us hl => match us, hl with | [_, _], _ => rfl
  have F31 := fun_mk (st := s_lost_room) l31 c31 k31
  have b31 := F31.binds (ps := ["rooms"]) fun _ _ _ _ _ _ us hl => match us, hl with | [_], _ => rfl
  have F32 := fun_mk (st := s_first_room) l32 c32 k32
  have b32 := F32.binds (ps := ["rooms", "size"]) fun _ _ _ _ _ _ us hl => match us, hl with | [_, _], _ => rfl
  have F33 := fun_mk (st := s_best_room) l33 c33 k33
  have b33 := F33.binds (ps := ["rooms", "size"]) fun _ _ _ _ _ _ us hl => match us, hl with | [_, _], _ => rfl
  have F34 := fun_mk (st := s_room_taken) l34 c34 k34
  have b34 := F34.binds (ps := ["rooms", "place", "size"]) fun _ _ _ _ _ _ us hl => match us, hl with | [_, _, _], _ => rfl
  have F35 := fun_mk (st := s_law_rooms) l35 c35 k35
  have b35 := F35.binds (ps := ["row", "heap"]) fun _ _ _ _ _ _ us hl => match us, hl with | [_, _], _ => rfl
  have F36 := fun_mk (st := s_law) l36 c36 k36
  have b36 := F36.binds (ps := ["script"]) fun _ _ _ _ _ _ us hl => match us, hl with | [_], _ => rfl
  have I_MOST_CELLS : ∃ t, mg "MOST_CELLS" = some (.int 12 t) := ⟨_, PySem.W.mg_of X G a_MOST_CELLS⟩
  have I_MOST_FIELDS : ∃ t, mg "MOST_FIELDS" = some (.int 4 t) := ⟨_, PySem.W.mg_of X G a_MOST_FIELDS⟩
  have I_MOST_ROOTS : ∃ t, mg "MOST_ROOTS" = some (.int 4 t) := ⟨_, PySem.W.mg_of X G a_MOST_ROOTS⟩
  have B : MG mg := ⟨PySem.W.mg_none_of X G z_all, PySem.W.mg_none_of X G z_bool, PySem.W.mg_none_of X G z_enumerate, PySem.W.mg_none_of X G z_int, PySem.W.mg_none_of X G z_isinstance, PySem.W.mg_none_of X G z_len, PySem.W.mg_none_of X G z_list, PySem.W.mg_none_of X G z_max, PySem.W.mg_none_of X G z_range, PySem.W.mg_none_of X G z_sorted, PySem.W.mg_none_of X G z_str, PySem.W.mg_none_of X G z_sum, PySem.W.mg_none_of X G z_tuple, PySem.W.mg_none_of X G z_zip⟩
  refine ⟨PySem.W.fnOf "law" "law" (defArgs s_law) (defBody s_law) (defScope s_law) .none kV36 dc36 pm36 an36 cd36 ct36, fun s v => .of_eq rfl, fun base _ _ => ?_⟩
  have G_law_mixed : FnG l.prog w K mg base 1 "_law_mixed" m_law_mixed [] := FnG.mk' (n := 6) (j := 2) (ok_law_mixed F0 B ) (PySem.W.mg_of X G a0) k0 b0
  have G_law_row : FnG l.prog w K mg base 2 "_law_row" m_law_row [] := FnG.mk' (n := 5) (j := 2) (ok_law_row F1 B G_law_mixed) (PySem.W.mg_of X G a1) k1 b1
  have G_law_field : FnG l.prog w K mg base 1 "_law_field" m_law_field [] := FnG.mk' (n := 3) (j := 2) (ok_law_field F2 B ) (PySem.W.mg_of X G a2) k2 b2
  have G_law_heap : FnG l.prog w K mg base 2 "_law_heap" m_law_heap [] := FnG.mk' (n := 10) (j := 2) (ok_law_heap F3 B G_law_field) (PySem.W.mg_of X G a3) k3 b3
  have G_law_is_int : FnG l.prog w K mg base 1 "_law_is_int" m_law_is_int [] := FnG.mk' (n := 1) (j := 1) (ok_law_is_int F4 B ) (PySem.W.mg_of X G a4) k4 b4
  have G_law_like : FnG l.prog w K mg base 7 "_law_like" m_law_like [] := FnG.mk' (n := 3) (j := 2) (okr_law_like F5 B G_law_is_int (PySem.W.mg_of X G a5) b5 6) (PySem.W.mg_of X G a5) k5 b5
  have G_is_number : FnG l.prog w K mg base 1 "is_number" m_is_number [] := FnG.mk' (n := 1) (j := 1) (ok_is_number F6 B ) (PySem.W.mg_of X G a6) k6 b6
  have G_is_link : FnG l.prog w K mg base 2 "_is_link" m_is_link [] := FnG.mk' (n := 2) (j := 2) (ok_is_link F7 B G_is_number) (PySem.W.mg_of X G a7) k7 b7
  have G_is_field : FnG l.prog w K mg base 3 "_is_field" m_is_field [] := FnG.mk' (n := 2) (j := 2) (ok_is_field F8 B G_is_link G_is_number) (PySem.W.mg_of X G a8) k8 b8
  have G_is_cell : FnG l.prog w K mg base 4 "_is_cell" m_is_cell [] := FnG.mk' (n := 3) (j := 2) (ok_is_cell F9 B G_is_field I_MOST_FIELDS) (PySem.W.mg_of X G a9) k9 b9
  have G_is_heap : FnG l.prog w K mg base 5 "is_heap" m_is_heap [] := FnG.mk' (n := 5) (j := 1) (ok_is_heap F10 B G_is_cell G_is_link I_MOST_ROOTS I_MOST_CELLS) (PySem.W.mg_of X G a10) k10 b10
  have G_law_judged : FnG l.prog w K mg base 8 "_law_judged" m_law_judged [] := FnG.mk' (n := 9) (j := 1) (ok_law_judged F11 B G_law_like G_is_heap) (PySem.W.mg_of X G a11) k11 b11
  have G_law_held : FnG l.prog w K mg base 2 "_law_held" m_law_held [] := FnG.mk' (n := 2) (j := 1) (ok_law_held F12 B G_law_is_int) (PySem.W.mg_of X G a12) k12 b12
  have G_law_met : FnG l.prog w K mg base 3 "_law_met" m_law_met [] := FnG.mk' (n := 6) (j := 2) (ok_law_met F13 B G_law_held) (PySem.W.mg_of X G a13) k13 b13
  have G_is_address : FnG l.prog w K mg base 1 "_is_address" m_is_address [] := FnG.mk' (n := 1) (j := 1) (ok_is_address F14 B ) (PySem.W.mg_of X G a14) k14 b14
  have G_moved : FnG l.prog w K mg base 2 "_moved" m_moved [] := FnG.mk' (n := 10) (j := 2) (ok_moved F15 B G_is_address) (PySem.W.mg_of X G a15) k15 b15
  have G_held : FnG l.prog w K mg base 2 "_held" m_held [] := FnG.mk' (n := 2) (j := 1) (ok_held F16 B G_is_address) (PySem.W.mg_of X G a16) k16 b16
  have G_met_cells_1 : FnG l.prog w K mg base 3 "_met_cells" m_met_cells [.ktp []] := FnG.mkD (n := 7) (j := 3) (ok_met_cells F17 B G_held G_is_address) (PySem.W.mg_of X G a17) k17 b17 v17 fun H => ⟨_, _, rfl, rep_unit lU17_0 H, rfl⟩
  have G_reached_cells : FnG l.prog w K mg base 4 "reached_cells" m_reached_cells [] := FnG.mk' (n := 3) (j := 1) (ok_reached_cells F18 B G_met_cells_1) (PySem.W.mg_of X G a18) k18 b18
  have G_slid_heap : FnG l.prog w K mg base 5 "slid_heap" m_slid_heap [] := FnG.mk' (n := 1) (j := 1) (ok_slid_heap F19 B G_moved G_reached_cells) (PySem.W.mg_of X G a19) k19 b19
  have G_law_turned : FnG l.prog w K mg base 2 "_law_turned" m_law_turned [] := FnG.mk' (n := 12) (j := 2) (ok_law_turned F20 B G_law_is_int G_law_field) (PySem.W.mg_of X G a20) k20 b20
  have G_law_moved : FnG l.prog w K mg base 2 "_law_moved" m_law_moved [] := FnG.mk' (n := 8) (j := 2) (ok_law_moved F21 B G_law_is_int) (PySem.W.mg_of X G a21) k21 b21
  have G_law_bare : FnG l.prog w K mg base 1 "_law_bare" m_law_bare [] := FnG.mk' (n := 3) (j := 1) (ok_law_bare F22 B ) (PySem.W.mg_of X G a22) k22 b22
  have G_same_heap : FnG l.prog w K mg base 2 "same_heap" m_same_heap [] := FnG.mk' (n := 9) (j := 2) (ok_same_heap F23 B G_is_address) (PySem.W.mg_of X G a23) k23 b23
  have G_marked_swept : FnG l.prog w K mg base 4 "marked_swept" m_marked_swept [] := FnG.mk' (n := 6) (j := 1) (ok_marked_swept F24 B G_met_cells_1) (PySem.W.mg_of X G a24) k24 b24
  have G_copied_heap : FnG l.prog w K mg base 4 "copied_heap" m_copied_heap [] := FnG.mk' (n := 3) (j := 1) (ok_copied_heap F25 B G_moved G_met_cells_1) (PySem.W.mg_of X G a25) k25 b25
  have G_shape_of : FnG l.prog w K mg base 5 "shape_of" m_shape_of [] := FnG.mk' (n := 1) (j := 1) (ok_shape_of F26 B G_copied_heap) (PySem.W.mg_of X G a26) k26 b26
  have G_law_swept : FnG l.prog w K mg base 8 "_law_swept" m_law_swept [] := FnG.mk' (n := 11) (j := 2) (ok_law_swept F27 B G_law_met G_slid_heap G_law_turned G_law_moved G_law_like G_law_bare G_same_heap G_reached_cells G_marked_swept G_copied_heap G_shape_of) (PySem.W.mg_of X G a27) k27 b27
  have G_law_place : FnG l.prog w K mg base 1 "_law_place" m_law_place [] := FnG.mk' (n := 6) (j := 2) (ok_law_place F28 B ) (PySem.W.mg_of X G a28) k28 b28
  have G_room_given : FnG l.prog w K mg base 1 "room_given" m_room_given [] := FnG.mk' (n := 6) (j := 2) (ok_room_given F29 B ) (PySem.W.mg_of X G a29) k29 b29
  have G_law_given : FnG l.prog w K mg base 1 "_law_given" m_law_given [] := FnG.mk' (n := 6) (j := 2) (ok_law_given F30 B ) (PySem.W.mg_of X G a30) k30 b30
  have G_lost_room : FnG l.prog w K mg base 1 "lost_room" m_lost_room [] := FnG.mk' (n := 4) (j := 1) (ok_lost_room F31 B ) (PySem.W.mg_of X G a31) k31 b31
  have G_first_room : FnG l.prog w K mg base 1 "first_room" m_first_room [] := FnG.mk' (n := 5) (j := 2) (ok_first_room F32 B ) (PySem.W.mg_of X G a32) k32 b32
  have G_best_room : FnG l.prog w K mg base 1 "best_room" m_best_room [] := FnG.mk' (n := 6) (j := 2) (ok_best_room F33 B ) (PySem.W.mg_of X G a33) k33 b33
  have G_room_taken : FnG l.prog w K mg base 1 "room_taken" m_room_taken [] := FnG.mk' (n := 5) (j := 3) (ok_room_taken F34 B ) (PySem.W.mg_of X G a34) k34 b34
  have G_law_rooms : FnG l.prog w K mg base 8 "_law_rooms" m_law_rooms [] := FnG.mk' (n := 17) (j := 2) (ok_law_rooms F35 B G_law_met G_law_place G_law_like G_room_given G_law_given G_lost_room G_first_room G_best_room G_room_taken) (PySem.W.mg_of X G a35) k35 b35
  exact (ok_law F36 B G_law_row G_law_heap G_law_judged G_law_swept G_law_rooms)
end K35
open PySem PySem.W PyProof.Rows
set_option maxHeartbeats 0 in
theorem PySem.Challenge.cw_tonguesalike_k35_whole_swept_and_given_holds : PySem.Challenge.rw_tonguesalike_k35_whole_swept_and_given.Holds := by
  w_on; o_law; k_head; (case hw => w_witness2)
  k_fill
  refine L2.walk_of (l := PySem.Challenge.rw_tonguesalike_k35_whole_swept_and_given) (n := 63) (k := 9) (x := "script") (CX := fun _ => L2.CX0) (sp := fun w => Pv.spD _ K35.m_law) rfl (by decide) rfl ⟨rfl, by decide, by decide⟩ (fun w h Y => PySem.W.kIn_of Y) ?F (fun _ _ a ns hl _ hS => ⟨[.scr ns], _, ⟨_, _, rfl, ⟨a, rfl, hS⟩, rfl⟩, HP.law_k35_true ns, fun v H' h => K35.ret_bl h⟩) (fun _ _ _ _ _ h => h)
  case F =>
    intro w mg fa h KX G hmg
    refine' K35.all_mk KX G hmg ?a0 ?l0 ?c0 ?k0 ?a1 ?l1 ?c1 ?k1 ?a2 ?l2 ?c2 ?k2 ?a3 ?l3 ?c3 ?k3 ?a4 ?l4 ?c4 ?k4 ?a5 ?l5 ?c5 ?k5 ?a6 ?l6 ?c6 ?k6 ?a7 ?l7 ?c7 ?k7 ?a8 ?l8 ?c8 ?k8 ?a9 ?l9 ?c9 ?k9 ?a10 ?l10 ?c10 ?k10 ?a11 ?l11 ?c11 ?k11 ?a12 ?l12 ?c12 ?k12 ?a13 ?l13 ?c13 ?k13 ?a14 ?l14 ?c14 ?k14 ?a15 ?l15 ?c15 ?k15 ?a16 ?l16 ?c16 ?k16 ?a17 ?l17 ?c17 ?k17 ?lT17 ?lU17_0 ?a18 ?l18 ?c18 ?k18 ?a19 ?l19 ?c19 ?k19 ?a20 ?l20 ?c20 ?k20 ?a21 ?l21 ?c21 ?k21 ?a22 ?l22 ?c22 ?k22 ?a23 ?l23 ?c23 ?k23 ?a24 ?l24 ?c24 ?k24 ?a25 ?l25 ?c25 ?k25 ?a26 ?l26 ?c26 ?k26 ?a27 ?l27 ?c27 ?k27 ?a28 ?l28 ?c28 ?k28 ?a29 ?l29 ?c29 ?k29 ?a30 ?l30 ?c30 ?k30 ?a31 ?l31 ?c31 ?k31 ?a32 ?l32 ?c32 ?k32 ?a33 ?l33 ?c33 ?k33 ?a34 ?l34 ?c34 ?k34 ?a35 ?l35 ?c35 ?k35 ?a36 ?l36 ?c36 ?k36 ?z_all ?z_bool ?z_enumerate ?z_int ?z_isinstance ?z_len ?z_list ?z_max ?z_range ?z_sorted ?z_str ?z_sum ?z_tuple ?z_zip ?a_MOST_CELLS ?a_MOST_FIELDS ?a_MOST_ROOTS
    (case a0 => k_is); (case l0 => k_is); (case c0 => k_is); (case k0 => k_is); (case a1 => k_is); (case l1 => k_is); (case c1 => k_is); (case k1 => k_is); (case a2 => k_is); (case l2 => k_is); (case c2 => k_is); (case k2 => k_is); (case a3 => k_is); (case l3 => k_is); (case c3 => k_is); (case k3 => k_is); (case a4 => k_is); (case l4 => k_is); (case c4 => k_is); (case k4 => k_is); (case a5 => k_is); (case l5 => k_is); (case c5 => k_is); (case k5 => k_is); (case a6 => k_is); (case l6 => k_is); (case c6 => k_is); (case k6 => k_is); (case a7 => k_is); (case l7 => k_is); (case c7 => k_is); (case k7 => k_is); (case a8 => k_is); (case l8 => k_is); (case c8 => k_is); (case k8 => k_is); (case a9 => k_is); (case l9 => k_is); (case c9 => k_is); (case k9 => k_is); (case a10 => k_is); (case l10 => k_is); (case c10 => k_is); (case k10 => k_is); (case a11 => k_is); (case l11 => k_is); (case c11 => k_is); (case k11 => k_is); (case a12 => k_is); (case l12 => k_is); (case c12 => k_is); (case k12 => k_is); (case a13 => k_is); (case l13 => k_is); (case c13 => k_is); (case k13 => k_is); (case a14 => k_is); (case l14 => k_is); (case c14 => k_is); (case k14 => k_is); (case a15 => k_is); (case l15 => k_is); (case c15 => k_is); (case k15 => k_is); (case a16 => k_is); (case l16 => k_is); (case c16 => k_is); (case k16 => k_is); (case a17 => k_is); (case l17 => k_is); (case c17 => k_is); (case k17 => k_is); (case lT17 => k_is); (case lU17_0 => k_is); (case a18 => k_is); (case l18 => k_is); (case c18 => k_is); (case k18 => k_is); (case a19 => k_is); (case l19 => k_is); (case c19 => k_is); (case k19 => k_is); (case a20 => k_is); (case l20 => k_is); (case c20 => k_is); (case k20 => k_is); (case a21 => k_is); (case l21 => k_is); (case c21 => k_is); (case k21 => k_is); (case a22 => k_is); (case l22 => k_is); (case c22 => k_is); (case k22 => k_is); (case a23 => k_is); (case l23 => k_is); (case c23 => k_is); (case k23 => k_is); (case a24 => k_is); (case l24 => k_is); (case c24 => k_is); (case k24 => k_is); (case a25 => k_is); (case l25 => k_is); (case c25 => k_is); (case k25 => k_is); (case a26 => k_is); (case l26 => k_is); (case c26 => k_is); (case k26 => k_is); (case a27 => k_is); (case l27 => k_is); (case c27 => k_is); (case k27 => k_is); (case a28 => k_is); (case l28 => k_is); (case c28 => k_is); (case k28 => k_is); (case a29 => k_is); (case l29 => k_is); (case c29 => k_is); (case k29 => k_is); (case a30 => k_is); (case l30 => k_is); (case c30 => k_is); (case k30 => k_is); (case a31 => k_is); (case l31 => k_is); (case c31 => k_is); (case k31 => k_is); (case a32 => k_is); (case l32 => k_is); (case c32 => k_is); (case k32 => k_is); (case a33 => k_is); (case l33 => k_is); (case c33 => k_is); (case k33 => k_is); (case a34 => k_is); (case l34 => k_is); (case c34 => k_is); (case k34 => k_is); (case a35 => k_is); (case l35 => k_is); (case c35 => k_is); (case k35 => k_is); (case a36 => k_is); (case l36 => k_is); (case c36 => k_is); (case k36 => k_is); (case z_all => k_is); (case z_bool => k_is); (case z_enumerate => k_is); (case z_int => k_is); (case z_isinstance => k_is); (case z_len => k_is); (case z_list => k_is); (case z_max => k_is); (case z_range => k_is); (case z_sorted => k_is); (case z_str => k_is); (case z_sum => k_is); (case z_tuple => k_is); (case z_zip => k_is); (case a_MOST_CELLS => k_is); (case a_MOST_FIELDS => k_is); (case a_MOST_ROOTS => k_is)
    all_goals first | rfl | decide
