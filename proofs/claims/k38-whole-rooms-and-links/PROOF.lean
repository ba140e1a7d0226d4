import PyProof.Rows.All
import Wide.All
import OpenK.AllK
import Wide.FinOn
import PySem.Challenge.RW_tonguesalike_k38_whole_rooms_and_links
import HandS.ForMost
import HandS.Walk
import HandS.TupAny
import HandS.Deep
import HandS.Flow
import HandS.IsInst
import KE.GoesEnum
import KE.GoesMore
import HandS.Zip
import HandS.Strs
import HandS.SetKeys
import HandS.TupMul
import HandS.More
import KE.KTupSum
import KE.SortData
import KE.DataFind
import HandS.DictComp
import KE.KDictZip
import PyProof.ListNew
import HandS.Defaults
import HandS.SortKw
import KE.DataMinMax
import HandS.SetFor
import HandS.Conv
import HandS.TupSets
import HandS.Style
set_option Elab.async false
set_option linter.all false
set_option maxRecDepth 100000
/-! P1: data, how values and heaps hold them, the state of a body -/
namespace Pv
open PySem PySem.Spec PyProof.Rows L2
/-- data -/
inductive D where
  | non | bl (b : Bool) | int (i : Int) | str (s : Str) | tup (xs : List D) | lst (xs : List D) | dct (t : Bool) (kvs : List (List Key × D)) | scr (ns : List Int) | ktp (xs : List D)
/-- the object of a dict: its keys are ints and texts (t false), or tuples of such -/
def hoD (t : Bool) (xs : List (List Key × V)) : HO := match t with
  | true => .dT xs
  | false => .dK (xs.map fun p => (p.1.headD (.inl 0), p.2))
def keysOk (t : Bool) (xs : List (List Key × V)) : Prop := t = false → ∀ p ∈ xs, ∃ k, p.1 = [k]
/-- a tuple with no dict of its own: one of the module's, or one whose object is known -/
def FT (od : Obj) : Prop := od.cls = .type "tuple" ∧ od.dict = none
def KTup (K : PySem.W.Frag) (G : Hp) (a : Addr) (xs : List V) : Prop := (∃ (o : Obj) (its : Array Value) (n : Nat), K.lookup a = some o ∧ o.cls = .type "tuple" ∧ o.dict = none ∧ o.data = .seq its n ∧ its.size ≤ sizeLine ∧ Vals xs its.toList) ∨ ∃ od, FT od ∧ G a = some (.frz od (.tup xs))
theorem KTup.mono {K : PySem.W.Frag} {G G' : Hp} {a : Addr} {xs : List V} (e : Same G G') (h : KTup K G a xs) : KTup K G' a xs := h.elim .inl fun ⟨od, h1, h2⟩ => .inr ⟨od, h1, e _ _ h2⟩
theorem KTup.sq {K : PySem.W.Frag} {G : Hp} {a : Addr} {xs : List V} (h : KTup K G a xs) : SqT K G a xs := h.elim (fun ⟨o, its, n, h1, h2, _, h3⟩ => .inr ⟨o, its, n, h1, h2, h3⟩) fun ⟨od, h1, h2⟩ => .inl (.inr ⟨od, h2⟩)
mutual
def RepF (K : PySem.W.Frag) (G : Hp) : D → V → Prop
  | .non, v => v = .non
  | .bl b, v => v = .bl b
  | .int i, v => v = .int i
  | .str s, v => v = .str s
  | .tup ds, v => ∃ a xs, v = .ref a ∧ G a = some (.tup xs) ∧ RepFs K G ds xs
  | .lst ds, v => ∃ a xs, v = .ref a ∧ G a = some (.lst xs) ∧ RepFs K G ds xs
  | .dct t ds, v => ∃ a xs, v = .ref a ∧ Rd G a (hoD t xs) ∧ keysOk t xs ∧ RepFk K G ds xs
  | .scr ns, v => ∃ a, v = .ref a ∧ SqL K G a (ns.map V.int)
  | .ktp ds, v => ∃ a xs, v = .ref a ∧ KTup K G a xs ∧ RepFs K G ds xs
def RepFs (K : PySem.W.Frag) (G : Hp) : List D → List V → Prop
  | [], xs => xs = []
  | d :: ds, xs => ∃ x r, xs = x :: r ∧ RepF K G d x ∧ RepFs K G ds r
def RepFk (K : PySem.W.Frag) (G : Hp) : List (List Key × D) → List (List Key × V) → Prop
  | [], xs => xs = []
  | (k, d) :: ds, xs => ∃ x r, xs = (k, x) :: r ∧ RepF K G d x ∧ RepFk K G ds r
end
/-- owned lists and dicts to the depth k, at the addresses F -/
def ROs (R : D → V → List Addr → Prop) : List D → List V → List Addr → Prop
  | [], xs, F => xs = [] ∧ F = []
  | d :: ds, xs, F => ∃ x r F1 F2, xs = x :: r ∧ F = F1 ++ F2 ∧ R d x F1 ∧ ROs R ds r F2
def ROk (R : D → V → List Addr → Prop) : List (List Key × D) → List (List Key × V) → List Addr → Prop
  | [], xs, F => xs = [] ∧ F = []
  | (k, d) :: ds, xs, F => ∃ x r F1 F2, xs = (k, x) :: r ∧ F = F1 ++ F2 ∧ R d x F1 ∧ ROk R ds r F2
def RO (K : PySem.W.Frag) (G H : Hp) : Nat → D → V → List Addr → Prop
  | 0, d, v, F => RepF K G d v ∧ F = []
  | k + 1, .lst ds, v, F => ∃ a xs F', v = .ref a ∧ H a = some (.lst xs) ∧ F = a :: F' ∧ ROs (RO K G H k) ds xs F'
  | k + 1, .dct t ds, v, F => ∃ a xs F', v = .ref a ∧ H a = some (hoD t xs) ∧ keysOk t xs ∧ F = a :: F' ∧ ROk (RO K G H k) ds xs F'
  | _ + 1, d, v, F => RepF K G d v ∧ F = []
section
variable {K : PySem.W.Frag} {G G' H H' : Hp}
theorem same_rd (e : Same G G') {a : Addr} {u : HO} (h : Rd G a u) : Rd G' a u := by
  rcases h with h | ⟨o, h⟩
  · exact .inl (e a _ h)
  · exact .inr ⟨o, e a _ h⟩
theorem same_t (e : Same G G') {a : Addr} {xs : List V} (h : SqT K G a xs) : SqT K G' a xs := by
  rcases h with h | h
  · exact .inl (same_rd e h)
  · exact .inr h
theorem same_l (e : Same G G') {a : Addr} {xs : List V} (h : SqL K G a xs) : SqL K G' a xs := by
  rcases h with h | h
  · exact .inl (same_rd e h)
  · exact .inr h
mutual
theorem RepF.mono (e : Same G G') : ∀ (d : D) (v : V), RepF K G d v → RepF K G' d v
  | .non, _, h => h
  | .bl _, _, h => h
  | .int _, _, h => h
  | .str _, _, h => h
  | .tup ds, _, ⟨a, xs, h1, h2, h3⟩ => ⟨a, xs, h1, e _ _ h2, RepFs.mono e ds xs h3⟩
  | .ktp ds, _, ⟨a, xs, h1, h2, h3⟩ => ⟨a, xs, h1, h2.mono e, RepFs.mono e ds xs h3⟩
  | .lst ds, _, ⟨a, xs, h1, h2, h3⟩ => ⟨a, xs, h1, e _ _ h2, RepFs.mono e ds xs h3⟩
  | .dct t ds, _, ⟨a, xs, h1, h2, h4, h3⟩ => ⟨a, xs, h1, same_rd e h2, h4, RepFk.mono e ds xs h3⟩
  | .scr ns, _, ⟨a, h1, h2⟩ => ⟨a, h1, same_l e h2⟩
theorem RepFs.mono (e : Same G G') : ∀ (ds : List D) (xs : List V), RepFs K G ds xs → RepFs K G' ds xs
  | [], _, h => h
  | d :: ds, _, ⟨x, r, h1, h2, h3⟩ => ⟨x, r, h1, RepF.mono e d x h2, RepFs.mono e ds r h3⟩
theorem RepFk.mono (e : Same G G') : ∀ (ds : List (List Key × D)) (xs : List (List Key × V)), RepFk K G ds xs → RepFk K G' ds xs
  | [], _, h => h
  | (_, d) :: ds, _, ⟨x, r, h1, h2, h3⟩ => ⟨x, r, h1, RepF.mono e d x h2, RepFk.mono e ds r h3⟩
end
theorem ROs.imp {R R' : D → V → List Addr → Prop} : ∀ (ds : List D) (xs : List V) (F : List Addr), (∀ d v F1, (∀ a ∈ F1, a ∈ F) → R d v F1 → R' d v F1) → ROs R ds xs F → ROs R' ds xs F
  | [], _, _, _, h => h
  | d :: ds, _, _, f, ⟨x, r, F1, F2, h1, h2, h3, h4⟩ => ⟨x, r, F1, F2, h1, h2, f _ _ _ (fun a h => by rw [h2]; exact List.mem_append_left _ h) h3,
      ROs.imp ds r F2 (fun d v F3 h => f d v F3 fun a ha => by rw [h2]; exact List.mem_append_right _ (h a ha)) h4⟩
theorem ROk.imp {R R' : D → V → List Addr → Prop} : ∀ (ds : List (List Key × D)) (xs : List (List Key × V)) (F : List Addr), (∀ d v F1, (∀ a ∈ F1, a ∈ F) → R d v F1 → R' d v F1) → ROk R ds xs F → ROk R' ds xs F
  | [], _, _, _, h => h
  | (_, d) :: ds, _, _, f, ⟨x, r, F1, F2, h1, h2, h3, h4⟩ => ⟨x, r, F1, F2, h1, h2, f _ _ _ (fun a h => by rw [h2]; exact List.mem_append_left _ h) h3,
      ROk.imp ds r F2 (fun d v F3 h => f d v F3 fun a ha => by rw [h2]; exact List.mem_append_right _ (h a ha)) h4⟩
theorem RO.mono (e : Same G G') : ∀ (k : Nat) (d : D) (v : V) (F : List Addr), (∀ a ∈ F, H' a = H a) → RO K G H k d v F → RO K G' H' k d v F
  | 0, d, v, _, _, h => ⟨RepF.mono e d v h.1, h.2⟩
  | k + 1, .lst ds, _, F, f, ⟨a, xs, F', h1, h2, h3, h4⟩ => ⟨a, xs, F', h1, by rw [f a (by rw [h3]; exact List.mem_cons_self), h2], h3,
      ROs.imp ds xs F' (fun d v F1 s => RO.mono e k d v F1 fun b hb => f b (by rw [h3]; exact List.mem_cons_of_mem _ (s b hb))) h4⟩
  | k + 1, .dct t ds, _, F, f, ⟨a, xs, F', h1, h2, h5, h3, h4⟩ => ⟨a, xs, F', h1, by rw [f a (by rw [h3]; exact List.mem_cons_self), h2], h5, h3,
      ROk.imp ds xs F' (fun d v F1 s => RO.mono e k d v F1 fun b hb => f b (by rw [h3]; exact List.mem_cons_of_mem _ (s b hb))) h4⟩
  | k + 1, .non, v, _, _, h => h
  | k + 1, .bl _, v, _, _, h => h
  | k + 1, .int _, v, _, _, h => h
  | k + 1, .str _, v, _, _, h => h
  | k + 1, .tup ds, v, _, _, h => ⟨RepF.mono e (.tup ds) v h.1, h.2⟩
  | k + 1, .scr ns, v, _, _, h => ⟨RepF.mono e (.scr ns) v h.1, h.2⟩
  | k + 1, .ktp ds, v, _, _, h => ⟨RepF.mono e (.ktp ds) v h.1, h.2⟩
/-- read as frozen, in a heap that holds what is owned -/
theorem ROs.toF {R : D → V → List Addr → Prop} : ∀ (ds : List D) (xs : List V) (F : List Addr), (∀ d v F1, (∀ a ∈ F1, a ∈ F) → R d v F1 → RepF K G d v) → ROs R ds xs F → RepFs K G ds xs
  | [], _, _, _, h => h.1
  | d :: ds, _, _, f, ⟨x, r, F1, F2, h1, h2, h3, h4⟩ => ⟨x, r, h1, f _ _ _ (fun a h => by rw [h2]; exact List.mem_append_left _ h) h3,
      ROs.toF ds r F2 (fun d v F3 h => f d v F3 fun a ha => by rw [h2]; exact List.mem_append_right _ (h a ha)) h4⟩
theorem ROk.toF {R : D → V → List Addr → Prop} : ∀ (ds : List (List Key × D)) (xs : List (List Key × V)) (F : List Addr), (∀ d v F1, (∀ a ∈ F1, a ∈ F) → R d v F1 → RepF K G d v) → ROk R ds xs F → RepFk K G ds xs
  | [], _, _, _, h => h.1
  | (_, d) :: ds, _, _, f, ⟨x, r, F1, F2, h1, h2, h3, h4⟩ => ⟨x, r, h1, f _ _ _ (fun a h => by rw [h2]; exact List.mem_append_left _ h) h3,
      ROk.toF ds r F2 (fun d v F3 h => f d v F3 fun a ha => by rw [h2]; exact List.mem_append_right _ (h a ha)) h4⟩
theorem RO.toF (e : Same G G') : ∀ (k : Nat) (d : D) (v : V) (F : List Addr), (∀ a ∈ F, G' a = H a) → RO K G H k d v F → RepF K G' d v
  | 0, d, v, _, _, h => RepF.mono e d v h.1
  | k + 1, .lst ds, _, F, f, ⟨a, xs, F', h1, h2, h3, h4⟩ => ⟨a, xs, h1, (by rw [f a (by rw [h3]; exact List.mem_cons_self), h2]),
      ROs.toF ds xs F' (fun d v F1 s => RO.toF e k d v F1 fun b hb => f b (by rw [h3]; exact List.mem_cons_of_mem _ (s b hb))) h4⟩
  | k + 1, .dct t ds, _, F, f, ⟨a, xs, F', h1, h2, h5, h3, h4⟩ => ⟨a, xs, h1, .inl (by rw [f a (by rw [h3]; exact List.mem_cons_self), h2]), h5,
      ROk.toF ds xs F' (fun d v F1 s => RO.toF e k d v F1 fun b hb => f b (by rw [h3]; exact List.mem_cons_of_mem _ (s b hb))) h4⟩
  | k + 1, .non, v, _, _, h => h.1
  | k + 1, .bl _, v, _, _, h => h.1
  | k + 1, .int _, v, _, _, h => h.1
  | k + 1, .str _, v, _, _, h => h.1
  | k + 1, .tup ds, v, _, _, h => RepF.mono e (.tup ds) v h.1
  | k + 1, .scr ns, v, _, _, h => RepF.mono e (.scr ns) v h.1
  | k + 1, .ktp ds, v, _, _, h => RepF.mono e (.ktp ds) v h.1
/-- a list or a dict stands at each owned address -/
def isOwn : HO → Prop
  | .lst _ => True
  | .dK _ => True
  | .dT _ => True
  | _ => False
theorem isOwn_hoD (t : Bool) (xs : List (List Key × V)) : isOwn (hoD t xs) := by cases t <;> trivial
theorem ROs.own {R : D → V → List Addr → Prop} {P : Addr → Prop} (f : ∀ d v F, R d v F → ∀ a ∈ F, P a) : ∀ (ds : List D) (xs : List V) (F : List Addr), ROs R ds xs F → ∀ a ∈ F, P a
  | [], _, _, h, a, ha => by rw [h.2] at ha; cases ha
  | d :: ds, _, _, ⟨x, r, F1, F2, h1, h2, h3, h4⟩, a, ha => by
    rw [h2] at ha
    rcases List.mem_append.mp ha with z | z
    · exact f _ _ _ h3 a z
    · exact ROs.own f ds r F2 h4 a z
theorem ROk.own {R : D → V → List Addr → Prop} {P : Addr → Prop} (f : ∀ d v F, R d v F → ∀ a ∈ F, P a) : ∀ (ds : List (List Key × D)) (xs : List (List Key × V)) (F : List Addr), ROk R ds xs F → ∀ a ∈ F, P a
  | [], _, _, h, a, ha => by rw [h.2] at ha; cases ha
  | (_, d) :: ds, _, _, ⟨x, r, F1, F2, h1, h2, h3, h4⟩, a, ha => by
    rw [h2] at ha
    rcases List.mem_append.mp ha with z | z
    · exact f _ _ _ h3 a z
    · exact ROk.own f ds r F2 h4 a z
theorem RO.own : ∀ (k : Nat) (d : D) (v : V) (F : List Addr), RO K G H k d v F → ∀ a ∈ F, ∃ o, H a = some o ∧ isOwn o
  | 0, d, v, _, h, a, ha => by rw [h.2] at ha; cases ha
  | k + 1, .lst ds, _, F, ⟨b, xs, F', h1, h2, h3, h4⟩, a, ha => by
    rw [h3] at ha
    rcases List.mem_cons.mp ha with rfl | z
    · exact ⟨_, h2, trivial⟩
    · exact ROs.own (fun d v F => RO.own k d v F) ds xs F' h4 a z
  | k + 1, .dct t ds, _, F, ⟨b, xs, F', h1, h2, h5, h3, h4⟩, a, ha => by
    rw [h3] at ha
    rcases List.mem_cons.mp ha with rfl | z
    · exact ⟨_, h2, isOwn_hoD t xs⟩
    · exact ROk.own (fun d v F => RO.own k d v F) ds xs F' h4 a z
  | k + 1, .non, v, _, h, a, ha => by rw [h.2] at ha; cases ha
  | k + 1, .bl _, v, _, h, a, ha => by rw [h.2] at ha; cases ha
  | k + 1, .int _, v, _, h, a, ha => by rw [h.2] at ha; cases ha
  | k + 1, .str _, v, _, h, a, ha => by rw [h.2] at ha; cases ha
  | k + 1, .tup ds, v, _, h, a, ha => by rw [h.2] at ha; cases ha
  | k + 1, .scr ns, v, _, h, a, ha => by rw [h.2] at ha; cases ha
  | k + 1, .ktp ds, v, _, h, a, ha => by rw [h.2] at ha; cases ha
end
/-! ### the state of a body -/
/-- data with the depth to which it is owned -/
abbrev W := Nat × D
abbrev Env := List (Option W)
/-- an argument: a value of its own, or what a slot holds -/
inductive Arg where
  | v (k : Nat) (d : D)
  | r (i : Nat)
def Arg.get (ρ : Env) : Arg → Option W
  | .v k d => some (k, d)
  | .r i => (ρ[i]?).join
def RSl (K : PySem.W.Frag) (G H : Hp) : L2.St → Env → List Addr → Prop
  | _, [], F => F = []
  | [], none :: ρ, F => RSl K G H [] ρ F
  | [], some _ :: _, _ => False
  | _ :: σ, none :: ρ, F => RSl K G H σ ρ F
  | s :: σ, some w :: ρ, F => ∃ v F1 F2, s = some v ∧ F = F1 ++ F2 ∧ RO K G H w.1 w.2 v F1 ∧ RSl K G H σ ρ F2
def RWs (K : PySem.W.Frag) (G H : Hp) (σ : L2.St) (ρ : Env) : List (V × Arg) → List Addr → Prop
  | [], F => F = []
  | (x, .v k d) :: ws, F => ∃ F1 F2, F = F1 ++ F2 ∧ RO K G H k d x F1 ∧ RWs K G H σ ρ ws F2
  | (x, .r i) :: ws, F => σ[i]? = some (some x) ∧ (∃ w, ρ[i]? = some (some w)) ∧ RWs K G H σ ρ ws F
structure Si (K : PySem.W.Frag) (G0 : Hp) (σ : L2.St) (ρ : Env) (ws : List (V × Arg)) (H G : Hp) (F1 F2 : List Addr) : Prop where
  ex0 : Same G0 G
  ex : Same G H
  sl : RSl K G H σ ρ F1
  wv : RWs K G H σ ρ ws F2
  nd : (F1 ++ F2).Nodup
  fr : ∀ a ∈ F1 ++ F2, G a = none
  tu : ∀ b o, H b = some o → ¬ isOwn o → G b = some o
  ln : σ.length = ρ.length
/-- the slots σ hold ρ, the values ws stand waiting, all that G0 holds is as it was -/
def SI (K : PySem.W.Frag) (G0 : Hp) (σ : L2.St) (ρ : Env) (ws : List (V × Arg)) (H : Hp) : Prop := ∃ G F1 F2, Si K G0 σ ρ ws H G F1 F2
section
variable {K : PySem.W.Frag} {G0 G G' H H' : Hp} {σ : L2.St} {ρ : Env} {ws : List (V × Arg)} {F F1 F2 : List Addr}
theorem RSl.mono (e : Same G G') : ∀ (σ : L2.St) (ρ : Env) (F : List Addr), (∀ a ∈ F, H' a = H a) → RSl K G H σ ρ F → RSl K G' H' σ ρ F
  | [], [], _, _, h => h
  | _ :: _, [], _, _, h => h
  | [], none :: ρ, F, f, h => RSl.mono e [] ρ F f h
  | [], some _ :: _, _, _, h => h
  | _ :: σ, none :: ρ, F, f, h => RSl.mono e σ ρ F f h
  | s :: σ, some w :: ρ, F, f, ⟨v, F1, F2, h1, h2, h3, h4⟩ => ⟨v, F1, F2, h1, h2, RO.mono e _ _ _ F1 (fun a ha => f a (by rw [h2]; exact List.mem_append_left _ ha)) h3,
      RSl.mono e σ ρ F2 (fun a ha => f a (by rw [h2]; exact List.mem_append_right _ ha)) h4⟩
theorem RWs.mono (e : Same G G') : ∀ (ws : List (V × Arg)) (F : List Addr), (∀ a ∈ F, H' a = H a) → RWs K G H σ ρ ws F → RWs K G' H' σ ρ ws F
  | [], _, _, h => h
  | (x, .v k d) :: ws, F, f, ⟨F1, F2, h2, h3, h4⟩ => ⟨F1, F2, h2, RO.mono e _ _ _ F1 (fun a ha => f a (by rw [h2]; exact List.mem_append_left _ ha)) h3,
      RWs.mono e ws F2 (fun a ha => f a (by rw [h2]; exact List.mem_append_right _ ha)) h4⟩
  | (x, .r i) :: ws, F, f, ⟨h1, h2, h3⟩ => ⟨h1, h2, RWs.mono e ws F f h3⟩
theorem RSl.own : ∀ (σ : L2.St) (ρ : Env) (F : List Addr), RSl K G H σ ρ F → ∀ a ∈ F, ∃ o, H a = some o ∧ isOwn o
  | [], [], F, h, a, ha => by rw [show F = [] from h] at ha; cases ha
  | _ :: _, [], F, h, a, ha => by rw [show F = [] from h] at ha; cases ha
  | [], none :: ρ, F, h, a, ha => RSl.own [] ρ F h a ha
  | [], some _ :: _, _, h, _, _ => h.elim
  | _ :: σ, none :: ρ, F, h, a, ha => RSl.own σ ρ F h a ha
  | s :: σ, some w :: ρ, F, ⟨v, F1, F2, h1, h2, h3, h4⟩, a, ha => by
    rw [h2] at ha
    rcases List.mem_append.mp ha with z | z
    · exact RO.own _ _ _ _ h3 a z
    · exact RSl.own σ ρ F2 h4 a z
theorem RWs.own : ∀ (ws : List (V × Arg)) (F : List Addr), RWs K G H σ ρ ws F → ∀ a ∈ F, ∃ o, H a = some o ∧ isOwn o
  | [], F, h, a, ha => by rw [show F = [] from h] at ha; cases ha
  | (x, .v k d) :: ws, F, ⟨F1, F2, h2, h3, h4⟩, a, ha => by
    rw [h2] at ha
    rcases List.mem_append.mp ha with z | z
    · exact RO.own _ _ _ _ h3 a z
    · exact RWs.own ws F2 h4 a z
  | (x, .r i) :: ws, F, ⟨h1, h2, h3⟩, a, ha => RWs.own ws F h3 a ha
theorem Si.own (I : Si K G0 σ ρ ws H G F1 F2) : ∀ a ∈ F1 ++ F2, ∃ o, H a = some o ∧ isOwn o := fun a ha => by
  rcases List.mem_append.mp ha with z | z
  · exact RSl.own _ _ _ I.sl a z
  · exact RWs.own _ _ I.wv a z
end
end Pv
set_option Elab.async false
set_option linter.all false
set_option maxRecDepth 100000
/-! P2: how the state is changed -/
namespace Pv
open PySem PySem.Spec PyProof.Rows L2
section
variable {K : PySem.W.Frag} {G0 G G' H H' : Hp} {σ : L2.St} {ρ : Env} {ws : List (V × Arg)} {F F1 F2 : List Addr}
/-- slot i, and the rest -/
theorem RSl.zoom : ∀ (σ : L2.St) (ρ : Env) (F : List Addr) (i : Nat), RSl K G H σ ρ F → i < ρ.length → i < σ.length →
    ∃ F1 Fi F2, F = F1 ++ Fi ++ F2 ∧ (∀ w, ρ[i]? = some (some w) → ∃ v, σ[i]? = some (some v) ∧ RO K G H w.1 w.2 v Fi) ∧ (ρ[i]? = some none → Fi = []) ∧
      ∀ (G' H' : Hp) (sv : Option V) (w' : Option W) (Fi' : List Addr), Same G G' → (∀ a ∈ F1 ++ F2, H' a = H a) →
        (∀ w, w' = some w → ∃ v, sv = some v ∧ RO K G' H' w.1 w.2 v Fi') → (w' = none → Fi' = []) → RSl K G' H' (σ.set i sv) (ρ.set i w') (F1 ++ Fi' ++ F2)
  | [], _, _, _, _, _, h => absurd h (Nat.not_lt_zero _)
  | _ :: _, [], _, _, _, h, _ => absurd h (Nat.not_lt_zero _)
  | s :: σ, none :: ρ, F, 0, h, _, _ => by
    refine ⟨[], [], F, rfl, (fun w e => by simp at e), (fun _ => rfl), fun G' H' sv w' Fi' e f g z => ?_⟩
    have hm := RSl.mono e σ ρ F (fun a ha => f a ha) h
    cases w' with
    | none =>
      have := z rfl
      subst this
      exact hm
    | some w =>
      obtain ⟨v, hv, hr⟩ := g w rfl
      exact ⟨v, Fi', F, hv, rfl, hr, hm⟩
  | s :: σ, some w :: ρ, F, 0, ⟨v, Fa, Fb, h1, h2, h3, h4⟩, _, _ => by
    subst h2
    refine ⟨[], Fa, Fb, rfl, (fun w' e => by simp at e; subst e; exact ⟨v, by rw [h1]; rfl, h3⟩), (fun e => by simp at e), fun G' H' sv w' Fi' e f g z => ?_⟩
    have hm := RSl.mono e σ ρ Fb (fun a ha => f a ha) h4
    cases w' with
    | none =>
      have := z rfl
      subst this
      exact hm
    | some w =>
      obtain ⟨v, hv, hr⟩ := g w rfl
      exact ⟨v, Fi', Fb, hv, rfl, hr, hm⟩
  | s :: σ, none :: ρ, F, i + 1, h, hi, hj => by
    obtain ⟨Fa, Fi, Fb, e1, e2, e3, e4⟩ := RSl.zoom σ ρ F i h (Nat.lt_of_succ_lt_succ hi) (Nat.lt_of_succ_lt_succ hj)
    exact ⟨Fa, Fi, Fb, e1, e2, e3, fun G' H' sv w' Fi' e f g z => e4 G' H' sv w' Fi' e f g z⟩
  | s :: σ, some w :: ρ, F, i + 1, ⟨v, Fa, Fb, h1, h2, h3, h4⟩, hi, hj => by
    obtain ⟨Fc, Fi, Fd, e1, e2, e3, e4⟩ := RSl.zoom σ ρ Fb i h4 (Nat.lt_of_succ_lt_succ hi) (Nat.lt_of_succ_lt_succ hj)
    refine ⟨Fa ++ Fc, Fi, Fd, by rw [h2, e1]; simp [List.append_assoc], e2, e3, fun G' H' sv w' Fi' e f g z => ?_⟩
    refine ⟨v, Fa, Fc ++ Fi' ++ Fd, h1, by simp [List.append_assoc], ?_, e4 G' H' sv w' Fi' e (fun a ha => f a ?_) g z⟩
    · exact RO.mono e _ _ _ Fa (fun a ha => f a (by simp [ha])) h3
    · rcases List.mem_append.mp ha with q | q
      · simp [q]
      · simp [q]
theorem RSl.len : ∀ (σ : L2.St) (ρ : Env) (F : List Addr), RSl K G H σ ρ F → ∀ (i : Nat) (w : W), ρ[i]? = some (some w) → i < σ.length
  | [], [], _, _, i, w, e => by simp at e
  | _ :: _, [], _, _, i, w, e => by simp at e
  | [], none :: ρ, F, h, 0, w, e => by simp at e
  | [], none :: ρ, F, h, i + 1, w, e => by
    have := RSl.len [] ρ F h i w (by simpa using e)
    simp at this
  | [], some _ :: _, _, h, _, _, _ => h.elim
  | _ :: σ, none :: ρ, F, h, 0, w, e => Nat.zero_lt_succ _
  | _ :: σ, none :: ρ, F, h, i + 1, w, e => Nat.succ_lt_succ (RSl.len σ ρ F h i w (by simpa using e))
  | s :: σ, some w' :: ρ, F, ⟨v, F1, F2, h1, h2, h3, h4⟩, 0, w, e => Nat.zero_lt_succ _
  | s :: σ, some w' :: ρ, F, ⟨v, F1, F2, h1, h2, h3, h4⟩, i + 1, w, e => Nat.succ_lt_succ (RSl.len σ ρ F2 h4 i w (by simpa using e))
/-- what a slot holds -/
theorem RSl.at (h : RSl K G H σ ρ F) {i : Nat} {w : W} (e : ρ[i]? = some (some w)) : ∃ v Fi, σ[i]? = some (some v) ∧ RO K G H w.1 w.2 v Fi ∧ ∀ a ∈ Fi, a ∈ F := by
  have hi : i < ρ.length := (List.getElem?_eq_some_iff.mp e).1
  obtain ⟨Fa, Fi, Fb, e1, e2, e3, e4⟩ := RSl.zoom σ ρ F i h hi (RSl.len _ _ _ h i w e)
  obtain ⟨v, h1, h2⟩ := e2 w e
  exact ⟨v, Fi, h1, h2, fun a ha => by rw [e1]; simp [ha]⟩
theorem RWs.env {σ' : L2.St} {ρ' : Env} : ∀ (ws : List (V × Arg)) (F : List Addr), (∀ (i : Nat) (v : V) (w : W), σ[i]? = some (some v) → ρ[i]? = some (some w) → σ'[i]? = some (some v) ∧ ∃ w', ρ'[i]? = some (some w')) → RWs K G H σ ρ ws F → RWs K G H σ' ρ' ws F
  | [], _, _, h => h
  | (x, .v k d) :: ws, F, f, ⟨F1, F2, h2, h3, h4⟩ => ⟨F1, F2, h2, h3, RWs.env ws F2 f h4⟩
  | (x, .r i) :: ws, F, f, ⟨h1, ⟨w, h2⟩, h3⟩ => ⟨(f i x w h1 h2).1, (f i x w h1 h2).2, RWs.env ws F f h3⟩
/-- how a step may grow the heaps: what comes new, owned at F' -/
structure Grow (G H G' H' : Hp) (F' : List Addr) : Prop where
  gg : Same G G'
  gh : Same G' H'
  hh : Same H H'
  fr : ∀ b, G b = none → H b ≠ none → G' b = none
  nd : F'.Nodup
  nw : ∀ a ∈ F', H a = none ∧ G' a = none
  tu : ∀ b o, H b = none → H' b = some o → ¬ isOwn o → G' b = some o
theorem Grow.refl (e : Same G H) : Grow G H G H [] := ⟨Same.refl _, e, Same.refl _, fun _ h _ => h, List.nodup_nil, (fun a h => by cases h), fun b o h1 h2 => by rw [h1] at h2; cases h2⟩
/-- a new object, frozen -/
theorem Grow.newF (e : Same G H) {p : Addr} {o : HO} (hp : H p = none) : Grow G H (upd G p o) (upd H p o) [] := by
  have gp : G p = none := e.free hp
  refine ⟨fun b u h => ?_, fun b u h => ?_, fun b u h => ?_, fun b h1 h2 => ?_, List.nodup_nil, (fun a h => by cases h), fun b u h1 h2 _ => ?_⟩
  · rw [upd_ne (ne_of_none h gp)]; exact h
  · by_cases hb : b = p
    · subst hb; rw [upd_same] at h ⊢; exact h
    · rw [upd_ne hb] at h ⊢; exact e b u h
  · rw [upd_ne (ne_of_none h hp)]; exact h
  · have : b ≠ p := fun z => h2 (by rw [z]; exact hp)
    rw [upd_ne this]; exact h1
  · by_cases hb : b = p
    · subst hb; rw [upd_same] at h2 ⊢; exact h2
    · rw [upd_ne hb] at h2; rw [h1] at h2; cases h2
/-- a new object, owned -/
theorem Grow.newO (e : Same G H) {p : Addr} {o : HO} (hp : H p = none) (ho : isOwn o) : Grow G H G (upd H p o) [p] := by
  have gp : G p = none := e.free hp
  refine ⟨Same.refl _, fun b u h => ?_, fun b u h => ?_, fun b h1 h2 => h1, by simp, fun a h => ?_, fun b u h1 h2 h3 => ?_⟩
  · rw [upd_ne (ne_of_none h gp)]; exact e b u h
  · rw [upd_ne (ne_of_none h hp)]; exact h
  · simp at h; subst h; exact ⟨hp, gp⟩
  · by_cases hb : b = p
    · subst hb; rw [upd_same] at h2; cases h2; exact absurd ho h3
    · rw [upd_ne hb] at h2; rw [h1] at h2; cases h2
theorem Grow.trans {G2 H2 : Hp} {Fa Fb : List Addr} (a : Grow G H G' H' Fa) (b : Grow G' H' G2 H2 Fb) (ha : ∀ x ∈ Fa, H' x ≠ none) : Grow G H G2 H2 (Fa ++ Fb) := by
  refine ⟨a.gg.trans b.gg, b.gh, a.hh.trans b.hh, fun c h1 h2 => ?_, ?_, fun x hx => ?_, fun c u h1 h2 h3 => ?_⟩
  · refine b.fr c (a.fr c h1 h2) ?_
    cases q : H c with
    | none => exact absurd q h2
    | some o => rw [a.hh c o q]; simp
  · refine List.nodup_append.mpr ⟨a.nd, b.nd, fun x hx y hy e => ?_⟩
    subst e
    exact ha x hx (b.nw x hy).1
  · rcases List.mem_append.mp hx with z | z
    · exact ⟨(a.nw x z).1, b.fr x (a.nw x z).2 (ha x z)⟩
    · exact ⟨a.hh.free (b.nw x z).1, (b.nw x z).2⟩
  · cases q : H' c with
    | none => exact b.tu c u q h2 h3
    | some o =>
      have e := b.hh c o q
      rw [h2] at e
      cases e
      exact b.gg c _ (a.tu c _ h1 q h3)
/-- drop the first waiting value -/
theorem Si.drop {x : V} {a : Arg} (I : Si K G0 σ ρ ((x, a) :: ws) H G F1 F2) : ∃ F2', (∀ b ∈ F2', b ∈ F2) ∧ Si K G0 σ ρ ws H G F1 F2' := by
  cases a with
  | v k d =>
    obtain ⟨Fa, Fb, h2, h3, h4⟩ := I.wv
    subst h2
    refine ⟨Fb, fun b hb => List.mem_append_right _ hb, I.ex0, I.ex, I.sl, h4, ?_, fun b hb => I.fr b ?_, I.tu, I.ln⟩
    · have := I.nd
      simp only [List.nodup_append, List.mem_append] at this ⊢
      exact ⟨this.1, this.2.1.2.1, fun x hx y hy => this.2.2 x hx y (.inr hy)⟩
    · rcases List.mem_append.mp hb with z | z
      · exact List.mem_append_left _ z
      · exact List.mem_append_right _ (List.mem_append_right _ z)
  | r i =>
    obtain ⟨h1, h2, h3⟩ := I.wv
    exact ⟨F2, fun b hb => hb, I.ex0, I.ex, I.sl, h3, I.nd, I.fr, I.tu, I.ln⟩
theorem SI.drop {x : V} {a : Arg} (I : SI K G0 σ ρ ((x, a) :: ws) H) : SI K G0 σ ρ ws H := by
  obtain ⟨G, F1, F2, I⟩ := I
  obtain ⟨F2', _, I'⟩ := I.drop
  exact ⟨G, F1, F2', I'⟩
theorem Grow.keep (g : Grow G H G' H' F) {a : Addr} {o : HO} (h : H a = some o) : H' a = H a := by rw [g.hh a o h, h]
/-- a step that grows the heaps -/
theorem Si.grow {F' : List Addr} (I : Si K G0 σ ρ ws H G F1 F2) (g : Grow G H G' H' F') : Si K G0 σ ρ ws H' G' F1 F2 := by
  have own := I.own
  have kp : ∀ a ∈ F1 ++ F2, H' a = H a := fun a ha => let ⟨o, h, _⟩ := own a ha; g.keep h
  refine ⟨I.ex0.trans g.gg, g.gh, RSl.mono g.gg _ _ _ (fun a ha => kp a (List.mem_append_left _ ha)) I.sl, RWs.mono g.gg _ _ (fun a ha => kp a (List.mem_append_right _ ha)) I.wv, I.nd, fun a ha => ?_, fun b o h1 h2 => ?_, I.ln⟩
  · obtain ⟨o, h, _⟩ := own a ha
    exact g.fr a (I.fr a ha) (by rw [h]; simp)
  · cases q : H b with
    | none => exact g.tu b o q h1 h2
    | some u =>
      have e := g.hh b u q
      rw [h1] at e
      cases e
      exact g.gg b _ (I.tu b _ q h2)
/-- a new value waits -/
theorem Si.push {F' : List Addr} {k : Nat} {d : D} {v : V} (I : Si K G0 σ ρ ws H G F1 F2) (g : Grow G H G' H' F') (r : RO K G' H' k d v F') : Si K G0 σ ρ ((v, .v k d) :: ws) H' G' F1 (F' ++ F2) := by
  have J := I.grow g
  have own := I.own
  refine ⟨J.ex0, J.ex, J.sl, ⟨F', F2, rfl, r, J.wv⟩, ?_, fun a ha => ?_, J.tu, J.ln⟩
  · have n1 := J.nd
    simp only [List.nodup_append, List.mem_append] at n1 ⊢
    refine ⟨n1.1, ⟨g.nd, n1.2.1, fun x hx y hy e => ?_⟩, fun x hx y hy e => ?_⟩
    · subst e
      obtain ⟨o, h, _⟩ := own x (List.mem_append_right _ hy)
      rw [(g.nw x hx).1] at h; cases h
    · subst e
      rcases hy with hy | hy
      · obtain ⟨o, h, _⟩ := own x (List.mem_append_left _ hx)
        rw [(g.nw x hy).1] at h; cases h
      · exact n1.2.2 x hx x hy rfl
  · rcases List.mem_append.mp ha with z | z
    · exact J.fr a (List.mem_append_left _ z)
    · rcases List.mem_append.mp z with z | z
      · exact (g.nw a z).2
      · exact J.fr a (List.mem_append_right _ z)
theorem Si.SI (I : Si K G0 σ ρ ws H G F1 F2) : SI K G0 σ ρ ws H := ⟨G, F1, F2, I⟩
/-- a frozen value waits -/
theorem Si.pushF {d : D} {v : V} (I : Si K G0 σ ρ ws H G F1 F2) (r : RepF K G d v) : Si K G0 σ ρ ((v, .v 0 d) :: ws) H G F1 F2 :=
  I.push (F' := []) (Grow.refl I.ex) ⟨r, rfl⟩
/-- what a slot holds waits -/
theorem Si.pushR {i : Nat} {w : W} {v : V} (I : Si K G0 σ ρ ws H G F1 F2) (h : ρ[i]? = some (some w)) (e : σ[i]? = some (some v)) : Si K G0 σ ρ ((v, .r i) :: ws) H G F1 F2 :=
  ⟨I.ex0, I.ex, I.sl, ⟨e, ⟨w, h⟩, I.wv⟩, I.nd, I.fr, I.tu, I.ln⟩
/-- what waits first -/
theorem Si.top {x : V} {a : Arg} {w : W} (I : Si K G0 σ ρ ((x, a) :: ws) H G F1 F2) (h : a.get ρ = some w) : ∃ Fx, RO K G H w.1 w.2 x Fx := by
  cases a with
  | v k d =>
    obtain ⟨Fa, Fb, h2, h3, h4⟩ := I.wv
    cases h
    exact ⟨Fa, h3⟩
  | r i =>
    obtain ⟨h1, ⟨w', h2⟩, h3⟩ := I.wv
    have h' : ρ[i]? = some (some w) := by
      have : (ρ[i]?).join = some w := h
      rw [h2] at this ⊢
      simpa using this
    obtain ⟨v, Fi, e1, e2, _⟩ := I.sl.at h'
    rw [h1] at e1
    cases e1
    exact ⟨Fi, e2⟩
/-- F is laid down in the frozen heap -/
def lay (G H : Hp) (F : List Addr) : Hp := fun b => if b ∈ F then H b else G b
theorem lay_in {F : List Addr} {b : Addr} (h : b ∈ F) : lay G H F b = H b := if_pos h
theorem lay_out {F : List Addr} {b : Addr} (h : b ∉ F) : lay G H F b = G b := if_neg h
theorem same_lay {F : List Addr} (h : ∀ a ∈ F, G a = none) : Same G (lay G H F) := fun b o e => by
  by_cases hb : b ∈ F
  · rw [h b hb] at e; cases e
  · rw [lay_out hb]; exact e
theorem lay_same {F : List Addr} (e : Same G H) : Same (lay G H F) H := fun b o h => by
  by_cases hb : b ∈ F
  · rw [lay_in hb] at h; exact h
  · rw [lay_out hb] at h; exact e b o h
/-- the first waiting value is frozen and taken off -/
theorem Si.freeze {x : V} {k : Nat} {d : D} (I : Si K G0 σ ρ ((x, .v k d) :: ws) H G F1 F2) : ∃ G' F2', Si K G0 σ ρ ws H G' F1 F2' ∧ Same G G' ∧ RepF K G' d x := by
  obtain ⟨Fa, Fb, h2, h3, h4⟩ := I.wv
  subst h2
  have nd := I.nd
  simp only [List.nodup_append, List.mem_append] at nd
  have ga : ∀ a ∈ Fa, G a = none := fun a ha => I.fr a (by simp [ha])
  have e := same_lay (H := H) ga
  refine ⟨lay G H Fa, Fb, ⟨I.ex0.trans e, lay_same I.ex, RSl.mono e _ _ _ (fun _ _ => rfl) I.sl, RWs.mono e _ _ (fun _ _ => rfl) h4, ?_, fun b hb => ?_, fun b o h1 h2 => e b o (I.tu b o h1 h2), I.ln⟩, e,
    RO.toF e _ _ _ Fa (fun a ha => lay_in ha) h3⟩
  · simp only [List.nodup_append]
    exact ⟨nd.1, nd.2.1.2.1, fun x hx y hy => nd.2.2 x hx y (.inr hy)⟩
  · have hn : b ∉ Fa := fun z => by
      rcases List.mem_append.mp hb with q | q
      · exact nd.2.2 b q b (.inl z) rfl
      · exact nd.2.1.2.2 b z b q rfl
    rw [lay_out hn]
    refine I.fr b ?_
    rcases List.mem_append.mp hb with q | q
    · simp [q]
    · simp [q]
theorem Si.next {x y : V} {a b : Arg} {w : W} (I : Si K G0 σ ρ ((x, a) :: (y, b) :: ws) H G F1 F2) (h : b.get ρ = some w) : ∃ Fx, RO K G H w.1 w.2 y Fx := by
  obtain ⟨F2', _, I'⟩ := I.drop
  exact I'.top h
end
end Pv
set_option Elab.async false
set_option linter.all false
set_option maxRecDepth 100000
/-! P3: expressions -/
namespace Pv
open PySem PySem.Spec PyProof.Rows L2
/-! ### judgements -/
theorem PE.imp {X : Cx} {e : Expr} {t t' : TE} (h : PE X e t) (i : ∀ σ H Q, t' σ H Q → t σ H Q) : PE X e t' := ⟨fun pins s σ H Q I q => h.run pins s σ H Q I (i σ H Q q)⟩
theorem PT.imp {X : Cx} {e : Expr} {t t' : TT} (h : PT X e t) (i : ∀ σ H Q, t' σ H Q → t σ H Q) : PT X e t' := ⟨fun pins s σ H Q I q => h.run pins s σ H Q I (i σ H Q q)⟩
theorem PW.imp {X : Cx} {e : Expr} {t t' : TT} (h : PW X e t) (i : ∀ σ H Q, t' σ H Q → t σ H Q) : PW X e t' := ⟨fun w pins s σ H Q I q => h.run w pins s σ H Q I (i σ H Q q)⟩
theorem PA.imp {X : Cx} {es : List Expr} {t t' : TA} (h : PA X es t) (i : ∀ σ H Q, t' σ H Q → t σ H Q) : PA X es t' := ⟨fun pos pins s σ H Q I q => h.run pos pins s σ H Q I (i σ H Q q)⟩
theorem PO.imp {X : Cx} {e : Option Expr} {t t' : TO} (h : PO X e t) (i : ∀ σ H Q, t' σ H Q → t σ H Q) : PO X e t' := ⟨fun pins s σ H Q I q => h.run pins s σ H Q I (i σ H Q q)⟩
abbrev Fe := Env → Option Arg
abbrev Fb := Env → Option Bool
abbrev Fa := Env → Option (List Arg)
abbrev Fo := Env → Option (Option Int)
def tE (K : PySem.W.Frag) (f : Fe) : TE := fun σ H Q => ∃ G0 ρ ws a, SI K G0 σ ρ ws H ∧ f ρ = some a ∧ ∀ v H', SI K G0 σ ρ ((v, a) :: ws) H' → Q v H'
def tT (K : PySem.W.Frag) (f : Fb) : TT := fun σ H Q => ∃ G0 ρ ws b, SI K G0 σ ρ ws H ∧ f ρ = some b ∧ ∀ H', SI K G0 σ ρ ws H' → Q b H'
def tA (K : PySem.W.Frag) (f : Fa) : TA := fun σ H Q => ∃ G0 ρ ws as, SI K G0 σ ρ ws H ∧ f ρ = some as ∧ ∀ vs H', vs.length = as.length → SI K G0 σ ρ ((vs.zip as).reverse ++ ws) H' → Q vs H'
def tO (K : PySem.W.Frag) (f : Fo) : TO := fun σ H Q => ∃ G0 ρ ws o, SI K G0 σ ρ ws H ∧ f ρ = some o ∧ ∀ H', SI K G0 σ ρ ws H' → Q o H'
def OkE (X : Cx) (e : Expr) (f : Fe) : Prop := PE X e (tE X.K f)
def OkT (X : Cx) (e : Expr) (f : Fb) : Prop := PT X e (tT X.K f)
def OkA (X : Cx) (es : List Expr) (f : Fa) : Prop := PA X es (tA X.K f)
def OkO (X : Cx) (e : Option Expr) (f : Fo) : Prop := PO X e (tO X.K f)
/-- the data of an expression -/
def val (f : Fe) (ρ : Env) : Option W := (f ρ).bind (Arg.get ρ)
/-! ### results -/
def Res (K : PySem.W.Frag) (G H : Hp) (w : W) (t : VK → Prop) : Prop := ∀ Q : VK, (∀ v H' G' F', Grow G H G' H' F' → RO K G' H' w.1 w.2 v F' → Q v H') → t Q
section
variable {K : PySem.W.Frag} {G0 G G' H H' : Hp} {σ : L2.St} {ρ : Env} {ws : List (V × Arg)} {F F1 F2 : List Addr} {t : VK → Prop}
theorem Res.pure {d : D} {v : V} (e : Same G H) (r : RepF K G d v) (h : ∀ Q : VK, Q v H → t Q) : Res K G H (0, d) t := fun Q q => h Q (q v H G [] (Grow.refl e) ⟨r, rfl⟩)
theorem Res.tup {ds : List D} {xs : List V} (e : Same G H) (r : RepFs K G ds xs) (h : ∀ Q : VK, (∀ p, H p = none → Q (.ref p) (upd H p (.tup xs))) → t Q) : Res K G H (0, .tup ds) t := fun Q q => h Q fun p hp => by
  have g := Grow.newF (o := .tup xs) e hp
  exact q _ _ _ [] g ⟨⟨p, xs, rfl, upd_same, RepFs.mono g.gg _ _ r⟩, rfl⟩
theorem ROs.of_F : ∀ {ds : List D} {xs : List V}, RepFs K G ds xs → ROs (RO K G H 0) ds xs []
  | [], _, h => ⟨h, rfl⟩
  | d :: ds, _, ⟨x, r, h1, h2, h3⟩ => ⟨x, r, [], [], h1, rfl, ⟨h2, rfl⟩, ROs.of_F h3⟩
theorem ROs.to_F : ∀ {ds : List D} {xs : List V} {F : List Addr}, ROs (RO K G H 0) ds xs F → RepFs K G ds xs ∧ F = []
  | [], _, _, h => h
  | d :: ds, _, _, ⟨x, r, F1, F2, h1, h2, h3, h4⟩ => by
    obtain ⟨q1, q2⟩ := ROs.to_F h4
    exact ⟨⟨x, r, h1, h3.1, q1⟩, by rw [h2, h3.2, q2]; rfl⟩
theorem Res.lst {ds : List D} {xs : List V} (e : Same G H) (r : RepFs K G ds xs) (h : ∀ Q : VK, (∀ p, H p = none → Q (.ref p) (upd H p (.lst xs))) → t Q) : Res K G H (1, .lst ds) t := fun Q q => h Q fun p hp => by
  have g := Grow.newO (o := .lst xs) e hp trivial
  exact q _ _ _ [p] g ⟨p, xs, [], rfl, upd_same, rfl, ROs.of_F r⟩
theorem Si.length_tup : ∀ {ds : List D} {xs : List V}, RepFs K G ds xs → xs.length = ds.length
  | [], _, h => by rw [show _ = [] from h]; rfl
  | d :: ds, _, ⟨x, r, h1, h2, h3⟩ => by rw [h1, List.length_cons, List.length_cons, Si.length_tup h3]
theorem RepFs.len {ds : List D} {xs : List V} (h : RepFs K G ds xs) : xs.length = ds.length := Si.length_tup h
theorem RepFs.get : ∀ {ds : List D} {xs : List V} {i : Nat} {d : D}, RepFs K G ds xs → ds[i]? = some d → ∃ x, xs[i]? = some x ∧ RepF K G d x
  | [], _, _, _, _, e => by simp at e
  | d :: ds, _, 0, d', ⟨x, r, h1, h2, h3⟩, e => by
    simp at e
    subst e
    exact ⟨x, by rw [h1]; rfl, h2⟩
  | d :: ds, _, i + 1, d', ⟨x, r, h1, h2, h3⟩, e => by
    obtain ⟨y, q1, q2⟩ := RepFs.get (i := i) h3 (by simpa using e)
    exact ⟨y, by rw [h1]; simpa using q1, q2⟩
theorem RepFs.append : ∀ {ds es : List D} {xs ys : List V}, RepFs K G ds xs → RepFs K G es ys → RepFs K G (ds ++ es) (xs ++ ys)
  | [], _, _, _, h, q => by rw [show _ = [] from h]; exact q
  | d :: ds, _, _, _, ⟨x, r, h1, h2, h3⟩, q => ⟨x, r ++ _, by rw [h1]; rfl, h2, RepFs.append h3 q⟩
theorem RepFs.take : ∀ {ds : List D} {xs : List V} (n : Nat), RepFs K G ds xs → RepFs K G (ds.take n) (xs.take n)
  | [], _, n, h => by rw [show _ = [] from h]; simp; exact (rfl : ([] : List V) = [])
  | d :: ds, _, 0, _ => by simp; exact (rfl : ([] : List V) = [])
  | d :: ds, _, n + 1, ⟨x, r, h1, h2, h3⟩ => ⟨x, r.take n, by rw [h1]; rfl, h2, RepFs.take n h3⟩
theorem RepFs.drop : ∀ {ds : List D} {xs : List V} (n : Nat), RepFs K G ds xs → RepFs K G (ds.drop n) (xs.drop n)
  | [], _, n, h => by rw [show _ = [] from h]; simp; exact (rfl : ([] : List V) = [])
  | d :: ds, _, 0, h => h
  | d :: ds, _, n + 1, ⟨x, r, h1, h2, h3⟩ => by rw [h1]; exact RepFs.drop n h3
/-! ### what stands for data -/
def isBox : D → Bool
  | .lst _ => true
  | .dct _ _ => true
  | _ => false
theorem RO.plain {k : Nat} {d : D} {v : V} (h : isBox d = false) (r : RO K G H k d v F) : RepF K G d v ∧ F = [] := by
  cases k with
  | zero => exact r
  | succ k => cases d <;> first | exact r | cases h
theorem RO.int {k : Nat} {i : Int} {v : V} (r : RO K G H k (.int i) v F) : v = .int i := (r.plain rfl).1
theorem RO.str {k : Nat} {i : Str} {v : V} (r : RO K G H k (.str i) v F) : v = .str i := (r.plain rfl).1
theorem RO.bl {k : Nat} {i : Bool} {v : V} (r : RO K G H k (.bl i) v F) : v = .bl i := (r.plain rfl).1
theorem RO.non {k : Nat} {v : V} (r : RO K G H k .non v F) : v = .non := (r.plain rfl).1
theorem RO.tupE {k : Nat} {ds : List D} {v : V} (r : RO K G H k (.tup ds) v F) : ∃ a xs, v = .ref a ∧ G a = some (.tup xs) ∧ RepFs K G ds xs := (r.plain rfl).1
theorem RO.tup {k : Nat} {ds : List D} {v : V} (r : RO K G H k (.tup ds) v F) : ∃ a xs, v = .ref a ∧ SqT K G a xs ∧ RepFs K G ds xs := let ⟨a, xs, h1, h2, h3⟩ := r.tupE; ⟨a, xs, h1, SqT.of h2, h3⟩
theorem RO.ktp {k : Nat} {ds : List D} {v : V} (r : RO K G H k (.ktp ds) v F) : ∃ a xs, v = .ref a ∧ KTup K G a xs ∧ RepFs K G ds xs := (r.plain rfl).1
theorem RO.scr {k : Nat} {ns : List Int} {v : V} (r : RO K G H k (.scr ns) v F) : ∃ a, v = .ref a ∧ SqL K G a (ns.map V.int) := (r.plain rfl).1
/-- a list whose items are frozen -/
theorem RO.lst1 {k : Nat} {ds : List D} {v : V} (e : Same G H) (hk : k ≤ 1) (r : RO K G H k (.lst ds) v F) : ∃ a xs, v = .ref a ∧ H a = some (.lst xs) ∧ RepFs K G ds xs := by
  match k, hk, r with
  | 0, _, r => obtain ⟨⟨a, xs, h1, h2, h3⟩, _⟩ := r; exact ⟨a, xs, h1, e _ _ h2, h3⟩
  | 1, _, r => obtain ⟨a, xs, F', h1, h2, h3, h4⟩ := r; exact ⟨a, xs, h1, h2, (ROs.to_F h4).1⟩
theorem ROs.len {R : D → V → List Addr → Prop} : ∀ {ds : List D} {xs : List V} {F : List Addr}, ROs R ds xs F → xs.length = ds.length
  | [], _, _, h => by rw [h.1]; rfl
  | d :: ds, _, _, ⟨x, r, F1, F2, h1, h2, h3, h4⟩ => by rw [h1, List.length_cons, List.length_cons, ROs.len h4]
theorem RO.lstN {k : Nat} {ds : List D} {v : V} (e : Same G H) (r : RO K G H k (.lst ds) v F) : ∃ a xs, v = .ref a ∧ H a = some (.lst xs) ∧ xs.length = ds.length := by
  match k, r with
  | 0, r => obtain ⟨⟨a, xs, h1, h2, h3⟩, _⟩ := r; exact ⟨a, xs, h1, e _ _ h2, h3.len⟩
  | k + 1, r => obtain ⟨a, xs, F', h1, h2, h3, h4⟩ := r; exact ⟨a, xs, h1, h2, h4.len⟩
end
/-! ### names, constants -/
section
variable {X : Cx} {e a b : Expr} {pos : Pos} {A B : Fe}
def pC (d : D) : Fe := fun _ => some (.v 0 d)
def pVar (i : Nat) : Fe := fun ρ => ((ρ[i]?).join).bind fun w => if w.1 = 0 then some (.v 0 w.2) else if isBox w.2 then none else some (.v 0 w.2)
def pBv (i : Nat) : Fe := fun ρ => ((ρ[i]?).join).map fun _ => .r i
theorem join_some {α : Type} {x : Option (Option α)} {a : α} (h : x.join = some a) : x = some (some a) := by
  cases x with
  | none => cases h
  | some y => simpa using h
theorem e_const {d : D} {v : V} (h : PE X e (tC v)) (r : ∀ G, RepF X.K G d v) : OkE X e (pC d) := PE.imp h fun σ H Q ⟨G0, ρ, ws, a, ⟨G, F1, F2, I⟩, hf, q⟩ => by
  cases hf
  exact q v H (I.pushF (r G)).SI
theorem e_int {i : Int} {j pos} : OkE X (.Constant (.int i) j pos) (pC (.int i)) := e_const pe_int fun _ => rfl
theorem e_bl {b : Bool} {j pos} : OkE X (.Constant (.bool b) j pos) (pC (.bl b)) := e_const pe_bl fun _ => rfl
theorem e_non {j pos} : OkE X (.Constant .none j pos) (pC .non) := e_const pe_non fun _ => rfl
theorem e_str {x : Str} {j pos} : OkE X (.Constant (.str x) j pos) (pC (.str x)) := e_const pe_str fun _ => rfl
theorem e_pv {i : Nat} (h : PE X e (tVar i)) : OkE X e (pVar i) := PE.imp h fun σ H Q ⟨G0, ρ, ws, a, ⟨G, F1, F2, I⟩, hf, q⟩ => by
  obtain ⟨w, hw, hf⟩ := Option.bind_eq_some_iff.mp hf
  obtain ⟨v, Fi, h1, h2, _⟩ := I.sl.at (join_some hw)
  refine ⟨v, h1, ?_⟩
  have key : RepF X.K G w.2 v ∧ a = .v 0 w.2 := by
    split at hf
    · rename_i hk
      rw [hk] at h2
      exact ⟨h2.1, (Option.some.inj hf).symm⟩
    · split at hf
      · cases hf
      · rename_i hb
        exact ⟨(RO.plain (by simpa using hb) h2).1, (Option.some.inj hf).symm⟩
  rw [key.2] at q
  exact q v H (I.pushF key.1).SI
theorem e_pb {i : Nat} (h : PE X e (tVar i)) : OkE X e (pBv i) := PE.imp h fun σ H Q ⟨G0, ρ, ws, a, ⟨G, F1, F2, I⟩, hf, q⟩ => by
  obtain ⟨w, hw, hf⟩ := Option.map_eq_some_iff.mp hf
  obtain ⟨v, Fi, h1, h2, _⟩ := I.sl.at (join_some hw)
  subst hf
  exact ⟨v, h1, q v H (I.pushR (join_some hw) h1).SI⟩
/-- the i-th name of the def, its value; what it holds -/
theorem e_var (i : Nat) {x : Str} {pos : Pos} (hN : X.N[i]? = some x := by rfl) (hv : Vis X.env.scope x := by first | exact Or.inl rfl | exact Or.inr (Or.inl rfl) | exact Or.inr (Or.inr rfl)) (hd : (x == ("__debug__" : Str)) = false := by decide)
    (hcd : (x == ("__classdict__" : Str)) = false := by decide) : OkE X (.Name x pos) (pVar i) := e_pv (pe_var hN hv hd hcd)
theorem e_bv (i : Nat) {x : Str} {pos : Pos} (hN : X.N[i]? = some x := by rfl) (hv : Vis X.env.scope x := by first | exact Or.inl rfl | exact Or.inr (Or.inl rfl) | exact Or.inr (Or.inr rfl)) (hd : (x == ("__debug__" : Str)) = false := by decide)
    (hcd : (x == ("__classdict__" : Str)) = false := by decide) : OkE X (.Name x pos) (pBv i) := e_pb (pe_var hN hv hd hcd)
/-! ### operations on values -/
def pOp1 (g : W → Option W) (A : Fe) : Fe := fun ρ => (val A ρ).bind fun u => (g u).map fun w => .v w.1 w.2
def pOp2 (g : W → W → Option W) (A B : Fe) : Fe := fun ρ => (val A ρ).bind fun u => (val B ρ).bind fun v => (g u v).map fun w => .v w.1 w.2
def Op1 (K : PySem.W.Frag) (r : V → Hp → VK → Prop) (g : W → Option W) : Prop := ∀ G H u x Fu w, Same G H → RO K G H u.1 u.2 x Fu → g u = some w → Res K G H w (r x H)
def Op2 (K : PySem.W.Frag) (r : R2) (g : W → W → Option W) : Prop := ∀ G H u v x y Fu Fv w, Same G H → RO K G H u.1 u.2 x Fu → RO K G H v.1 v.2 y Fv → g u v = some w → Res K G H w (r x y H)
theorem val_some {f : Fe} {ρ : Env} {w : W} (h : val f ρ = some w) : ∃ a, f ρ = some a ∧ a.get ρ = some w := Option.bind_eq_some_iff.mp h
theorem op1_imp {r : V → Hp → VK → Prop} {g : W → Option W} {K : PySem.W.Frag} (hg : Op1 K r g) (σ : L2.St) (H : Hp) (Q : VK) (h : tE K (pOp1 g A) σ H Q) : tE K A σ H fun x H1 => r x H1 Q := by
  obtain ⟨G0, ρ, ws, a, I, hf, q⟩ := h
  obtain ⟨u, hu, hf⟩ := Option.bind_eq_some_iff.mp hf
  obtain ⟨w, hw, rfl⟩ := Option.map_eq_some_iff.mp hf
  obtain ⟨a1, ha, hg1⟩ := val_some hu
  refine ⟨G0, ρ, ws, a1, I, ha, fun x H1 I1 => ?_⟩
  obtain ⟨G, F1, F2, J⟩ := I1
  obtain ⟨Fx, rx⟩ := J.top hg1
  refine hg G H1 u x Fx w J.ex rx hw Q fun v H' G' F' gr rv => ?_
  obtain ⟨F2', _, J'⟩ := J.drop
  exact q v H' (J'.push gr rv).SI
theorem op2_imp {r : R2} {g : W → W → Option W} {K : PySem.W.Frag} (hg : Op2 K r g) (σ : L2.St) (H : Hp) (Q : VK) (h : tE K (pOp2 g A B) σ H Q) : tOp r (tE K A) (tE K B) σ H Q := by
  obtain ⟨G0, ρ, ws, a, I, hf, q⟩ := h
  obtain ⟨u, hu, hf⟩ := Option.bind_eq_some_iff.mp hf
  obtain ⟨v, hv, hf⟩ := Option.bind_eq_some_iff.mp hf
  obtain ⟨w, hw, rfl⟩ := Option.map_eq_some_iff.mp hf
  obtain ⟨a1, ha, hg1⟩ := val_some hu
  obtain ⟨a2, hb, hg2⟩ := val_some hv
  refine ⟨G0, ρ, ws, a1, I, ha, fun x H1 I1 => ⟨G0, ρ, (x, a1) :: ws, a2, I1, hb, fun y H2 I2 => ?_⟩⟩
  obtain ⟨G, F1, F2, J⟩ := I2
  obtain ⟨Fy, ry⟩ := J.top hg2
  obtain ⟨Fx, rx⟩ := J.next hg1
  refine hg G H2 u v x y Fx Fy w J.ex rx ry hw Q fun z H' G' F' gr rv => ?_
  obtain ⟨F2', _, J'⟩ := J.drop
  obtain ⟨F3', _, J''⟩ := J'.drop
  exact q z H' (J''.push gr rv).SI
theorem e_bin {op : Operator} {r : R2} {g : W → W → Option W} (ho : OpR X (binaryOp op) r) (hg : Op2 X.K r g) (ha : OkE X a A) (hb : OkE X b B) : OkE X (.BinOp a op b pos) (pOp2 g A B) := PE.imp (pe_op ho ha hb) (op2_imp hg)
theorem e_cmp {op : CmpOp} {r : R2} {g : W → W → Option W} (ho : OpR X (compareOp op) r) (hg : Op2 X.K r g) (ha : OkE X a A) (hb : OkE X b B) (hm : behindInMarks op b = false := by rfl) : OkE X (.Compare a [op] [b] pos) (pOp2 g A B) :=
  PE.imp (pe_cmpR ho ha hb hm) (op2_imp hg)
theorem e_un {op : UnaryOp} {r : V → Hp → VK → Prop} {g : W → Option W} (ho : UnR X (unaryOp op) r) (hg : Op1 X.K r g) (ha : OkE X a A) : OkE X (.UnaryOp op a pos) (pOp1 g A) := PE.imp (pe_un ho ha) (op1_imp hg)
theorem e_ix {r : R2} {g : W → W → Option W} (ho : IxR X r) (hg : Op2 X.K r g) (ha : OkE X a A) (hb : OkE X b B) (hs : PlainIx b := by exact fun _ _ => rfl) : OkE X (.Subscript a b pos) (pOp2 g A B) := PE.imp (pe_ix ho ha hb hs) (op2_imp hg)
theorem Op2.or {K : PySem.W.Frag} {r r' : R2} {g g' : W → W → Option W} (h : Op2 K r g) (h' : Op2 K r' g') : Op2 K (fun x y H Q => r x y H Q ∨ r' x y H Q) (fun u v => (g u v).orElse fun _ => g' u v) := fun G H u v x y Fu Fv w e ru rv hw Q q => by
  replace hw : ((g u v).orElse fun _ => g' u v) = some w := hw
  cases hg : g u v with
  | some z =>
    rw [hg] at hw
    exact .inl (h G H u v x y Fu Fv w e ru rv (by rw [hg]; exact hw) Q q)
  | none =>
    rw [hg] at hw
    exact .inr (h' G H u v x y Fu Fv w e ru rv hw Q q)
end
end Pv
set_option Elab.async false
set_option linter.all false
set_option maxRecDepth 100000
/-! P4: operations by data -/
namespace Pv
open PySem PySem.Spec PyProof.Rows L2
def big : Nat := 1000000
theorem big_line {n : Nat} (h : n ≤ big) : n ≤ sizeLine := Nat.le_trans h (by decide)
theorem big_lt {n : Nat} (h : n < big) : n < sizeLine := Nat.lt_of_lt_of_le h (by decide)
section
variable {K : PySem.W.Frag} {G0 G G' H H' : Hp}
/-! ### + - * // % ** -/
def gAdd : W → W → Option W
  | (_, .int i), (_, .int j) => some (0, .int (i + j))
  | (_, .str a), (_, .str b) => if a.length + b.length ≤ big then some (0, .str (a ++ b)) else none
  | (k, .lst xs), (l, .lst ys) => if k ≤ 1 ∧ l ≤ 1 ∧ xs.length + ys.length ≤ big then some (1, .lst (xs ++ ys)) else none
  | (_, .tup xs), (_, .tup ys) => if xs.length + ys.length ≤ big then some (0, .tup (xs ++ ys)) else none
  | _, _ => none
def rAdd (K : PySem.W.Frag) : R2 := fun x y H Q => rI0 (fun i j => .int (i + j)) x y H Q ∨ (∃ i j, x = .str i ∧ y = .str j ∧ i.length + j.length ≤ sizeLine ∧ Q (.str (i ++ j)) H) ∨ rCat x y H Q ∨ rCatA K x y H Q
theorem op_addA {X : Cx} : OpR X (binaryOp .Add) (rAdd X.K) := OpR.or op_add (OpR.or op_add_str (OpR.or op_cat op_catA))
theorem RepFs.nil_iff {ds : List D} {xs : List V} (h : RepFs K G ds xs) : xs = [] ↔ ds = [] := by
  have := h.len
  constructor
  · intro e; subst e; exact List.eq_nil_of_length_eq_zero this.symm
  · intro e; subst e; exact List.eq_nil_of_length_eq_zero this
theorem g_add : Op2 K (rAdd K) gAdd := by
  intro G H u v x y Fu Fv w e ru rv hw
  unfold gAdd at hw
  split at hw
  · cases hw
    obtain rfl := ru.int
    obtain rfl := rv.int
    exact Res.pure e rfl fun Q q => .inl ⟨_, _, rfl, rfl, q⟩
  · split at hw
    · rename_i hz
      cases hw
      obtain rfl := ru.str
      obtain rfl := rv.str
      exact Res.pure e rfl fun Q q => .inr (.inl ⟨_, _, rfl, rfl, big_line hz, q⟩)
    · cases hw
  · split at hw
    · rename_i hz
      cases hw
      obtain ⟨a, xs, rfl, h1, h2⟩ := ru.lst1 e hz.1
      obtain ⟨b, ys, rfl, h3, h4⟩ := rv.lst1 e hz.2.1
      exact Res.lst e (h2.append h4) fun Q q => .inr (.inr (.inl ⟨a, b, xs, ys, rfl, rfl, h1, h3, by rw [h2.len, h4.len]; exact big_line hz.2.2, q⟩))
    · cases hw
  · split at hw
    · rename_i hz
      cases hw
      obtain ⟨a, xs, rfl, h1, h2⟩ := ru.tupE
      obtain ⟨b, ys, rfl, h3, h4⟩ := rv.tupE
      intro Q q
      have hl : xs.length + ys.length ≤ sizeLine := by rw [h2.len, h4.len]; exact big_line hz
      refine .inr (.inr (.inr ⟨a, b, xs, ys, rfl, rfl, SqT.of (e _ _ h1), SqT.of (e _ _ h3), hl, fun z => ?_, fun _ z => ?_, fun _ _ p hp => ?_⟩))
      · have z' := h2.nil_iff.mp z
        subst z'
        exact q _ H G [] (Grow.refl e) ⟨⟨b, ys, rfl, h3, h4⟩, rfl⟩
      · have z' := h4.nil_iff.mp z
        subst z'
        refine q _ H G [] (Grow.refl e) ⟨⟨a, xs, rfl, h1, ?_⟩, rfl⟩
        rw [List.append_nil]; exact h2
      · have g := Grow.newF (o := .tup (xs ++ ys)) e hp
        exact q _ _ _ [] g ⟨⟨p, _, rfl, upd_same, RepFs.mono g.gg _ _ (h2.append h4)⟩, rfl⟩
    · cases hw
  · cases hw
/-- int operations -/
theorem g_int2 {C : Int → Int → Prop} {f : Int → Int → Int} {g : W → W → Option W} (h : ∀ u v w, g u v = some w → ∃ i j k l, u = (k, .int i) ∧ v = (l, .int j) ∧ C i j ∧ w = (0, .int (f i j))) : Op2 K (rI C fun i j => .int (f i j)) g := by
  intro G H u v x y Fu Fv w e ru rv hw
  obtain ⟨i, j, k, l, rfl, rfl, hc, rfl⟩ := h u v w hw
  obtain rfl := RO.int ru
  obtain rfl := RO.int rv
  exact Res.pure e rfl fun Q q => ⟨_, _, rfl, rfl, hc, q⟩
theorem g_int20 {f : Int → Int → Int} {g : W → W → Option W} (h : ∀ u v w, g u v = some w → ∃ i j k l, u = (k, .int i) ∧ v = (l, .int j) ∧ w = (0, .int (f i j))) : Op2 K (rI0 fun i j => .int (f i j)) g := by
  intro G H u v x y Fu Fv w e ru rv hw
  obtain ⟨i, j, k, l, rfl, rfl, rfl⟩ := h u v w hw
  obtain rfl := RO.int ru
  obtain rfl := RO.int rv
  exact Res.pure e rfl fun Q q => ⟨_, _, rfl, rfl, q⟩
def gSub : W → W → Option W
  | (_, .int i), (_, .int j) => some (0, .int (i - j))
  | _, _ => none
theorem g_sub : Op2 K (rI0 fun i j => .int (i - j)) gSub := g_int20 fun u v w h => by
  unfold gSub at h; split at h
  · cases h; exact ⟨_, _, _, _, rfl, rfl, rfl⟩
  · cases h
def gMulI : W → W → Option W
  | (_, .int i), (_, .int j) => if (-(2 ^ 64) < j ∧ j < 2 ^ 64) ∨ (-(2 ^ 64) < i ∧ i < 2 ^ 64) then some (0, .int (i * j)) else none
  | _, _ => none
theorem g_mulI : Op2 K (rI CMul fun i j => .int (i * j)) gMulI := g_int2 fun u v w h => by
  unfold gMulI at h; split at h
  · split at h
    · rename_i hc
      cases h; exact ⟨_, _, _, _, rfl, rfl, hc.symm, rfl⟩
    · cases h
  · cases h
def gFdiv : W → W → Option W
  | (_, .int i), (_, .int j) => if 0 < j ∧ j < 1073741824 then some (0, .int (i / j)) else none
  | _, _ => none
theorem g_fdiv : Op2 K (rI CDiv fun i j => .int (i / j)) gFdiv := g_int2 fun u v w h => by
  unfold gFdiv at h; split at h
  · split at h
    · rename_i hc
      cases h; exact ⟨_, _, _, _, rfl, rfl, hc, rfl⟩
    · cases h
  · cases h
def gMod : W → W → Option W
  | (_, .int i), (_, .int j) => if 0 < j then some (0, .int (i % j)) else none
  | _, _ => none
theorem g_mod : Op2 K (rI (fun _ j => 0 < j) fun i j => .int (i % j)) gMod := g_int2 fun u v w h => by
  unfold gMod at h; split at h
  · split at h
    · rename_i hc
      cases h; exact ⟨_, _, _, _, rfl, rfl, hc, rfl⟩
    · cases h
  · cases h
def gPow : W → W → Option W
  | (_, .int i), (_, .int j) => if 0 ≤ j ∧ j ≤ 1000 ∧ i.natAbs < 2 ^ 64 then some (0, .int (i ^ j.toNat)) else none
  | _, _ => none
theorem g_pow : Op2 K (rI CPow fun i j => .int (i ^ j.toNat)) gPow := g_int2 fun u v w h => by
  unfold gPow at h; split at h
  · split at h
    · rename_i hc
      cases h; exact ⟨_, _, _, _, rfl, rfl, ⟨hc.1, by omega, hc.2.2⟩, rfl⟩
    · cases h
  · cases h
def gNeg : W → Option W
  | (_, .int i) => some (0, .int (-i))
  | _ => none
theorem g_neg : Op1 K (rU fun i => .int (-i)) gNeg := by
  intro G H u x Fu w e ru hw
  unfold gNeg at hw; split at hw
  · cases hw
    obtain rfl := ru.int
    exact Res.pure e rfl fun Q q => ⟨_, rfl, q⟩
  · cases hw
/-! ### comparisons -/
def gCmpI (p : Int → Int → Bool) : W → W → Option W
  | (_, .int i), (_, .int j) => some (0, .bl (p i j))
  | _, _ => none
theorem g_cmpI {p : Int → Int → Bool} : Op2 K (rI0 fun i j => .bl (p i j)) (gCmpI p) := by
  intro G H u v x y Fu Fv w e ru rv hw
  unfold gCmpI at hw; split at hw
  · cases hw
    obtain rfl := ru.int
    obtain rfl := rv.int
    exact Res.pure e rfl fun Q q => ⟨_, _, rfl, rfl, q⟩
  · cases hw
/-- scalars -/
def gEqS : D → D → Option Bool
  | .int i, .int j => some (decide (i = j))
  | .str i, .str j => some (decide (i = j))
  | .bl i, .bl j => some (decide (i = j))
  | .non, .non => some true
  | .non, .int _ => some false
  | .int _, .non => some false
  | .non, .str _ => some false
  | .str _, .non => some false
  | .non, .bl _ => some false
  | .bl _, .non => some false
  | .int _, .str _ => some false
  | .str _, .int _ => some false
  | .bl _, .str _ => some false
  | .str _, .bl _ => some false
  | _, _ => none
mutual
def toPy : D → Option PyData
  | .non => some .none
  | .bl b => some (.bool b)
  | .int i => some (.int i)
  | .str s => some (.str s)
  | .tup ds => (toPys ds).map .tuple
  | .lst ds => (toPys ds).map .list
  | .dct _ _ => none
  | .scr _ => none
  | .ktp ds => (toPys ds).map .tuple
def toPys : List D → Option (List PyData)
  | [] => some []
  | d :: ds => (toPy d).bind fun p => (toPys ds).map fun ps => p :: ps
end
def gEqP (p q : PyData) : Option Bool := if SeqAt.shaped p = true ∧ SeqAt.shaped q = true then some (PyData.eqv p q) else none
def gEqD (c d : D) : Option Bool := match gEqS c d with
  | some b => some b
  | none => (toPy c).bind fun p => (toPy d).bind fun q => gEqP p q
/-- lists are compared where their items are frozen -/
def eqOk (w : W) : Bool := decide (w.1 ≤ 1) || !isBox w.2
def gEq (u v : W) : Option W := if eqOk u && eqOk v then (gEqD u.2 v.2).map fun b => (0, .bl b) else none
def gNe (u v : W) : Option W := if eqOk u && eqOk v then (gEqD u.2 v.2).map fun b => (0, .bl (!b)) else none
theorem scal_of {c d : D} {b : Bool} (h : gEqS c d = some b) : ∀ {k l : Nat} {x y : V} {Fu Fv : List Addr}, RO K G H k c x Fu → RO K G H l d y Fv → scal x y = true ∧ decide (x = y) = b := by
  intro k l x y Fu Fv ru rv
  unfold gEqS at h
  split at h <;> first
    | (cases h; obtain rfl := ru.int; obtain rfl := rv.int; exact ⟨rfl, by simp⟩)
    | (cases h; obtain rfl := ru.str; obtain rfl := rv.str; exact ⟨rfl, by simp⟩)
    | (cases h; obtain rfl := ru.bl; obtain rfl := rv.bl; exact ⟨rfl, by simp⟩)
    | (cases h; obtain rfl := ru.non; obtain rfl := rv.non; exact ⟨rfl, by simp⟩)
    | (cases h; obtain rfl := ru.non; obtain rfl := rv.int; exact ⟨rfl, by simp⟩)
    | (cases h; obtain rfl := ru.int; obtain rfl := rv.non; exact ⟨rfl, by simp⟩)
    | (cases h; obtain rfl := ru.non; obtain rfl := rv.str; exact ⟨rfl, by simp⟩)
    | (cases h; obtain rfl := ru.str; obtain rfl := rv.non; exact ⟨rfl, by simp⟩)
    | (cases h; obtain rfl := ru.non; obtain rfl := rv.bl; exact ⟨rfl, by simp⟩)
    | (cases h; obtain rfl := ru.bl; obtain rfl := rv.non; exact ⟨rfl, by simp⟩)
    | (cases h; obtain rfl := ru.int; obtain rfl := rv.str; exact ⟨rfl, by simp⟩)
    | (cases h; obtain rfl := ru.str; obtain rfl := rv.int; exact ⟨rfl, by simp⟩)
    | (cases h; obtain rfl := ru.bl; obtain rfl := rv.str; exact ⟨rfl, by simp⟩)
    | (cases h; obtain rfl := ru.str; obtain rfl := rv.bl; exact ⟨rfl, by simp⟩)
    | cases h
mutual
theorem dp_of (e : Same G H) : ∀ (d : D) (p : PyData) (v : V), toPy d = some p → RepF K G d v → Dp K H v p
  | .non, _, _, h, r => by cases h; cases r; exact .non
  | .bl b, _, _, h, r => by cases h; cases r; exact .bl b
  | .int i, _, _, h, r => by cases h; cases r; exact .int i
  | .str s, _, _, h, r => by cases h; cases r; exact .str s
  | .tup ds, _, _, h, ⟨a, xs, h1, h2, h3⟩ => by
    obtain ⟨ps, hp, rfl⟩ := Option.map_eq_some_iff.mp h
    subst h1
    exact .tup (SqT.of (e _ _ h2)) (dps_of e ds ps xs hp h3)
  | .lst ds, _, _, h, ⟨a, xs, h1, h2, h3⟩ => by
    obtain ⟨ps, hp, rfl⟩ := Option.map_eq_some_iff.mp h
    subst h1
    exact .lst (.inl (.inl (e _ _ h2))) (dps_of e ds ps xs hp h3)
  | .dct _ _, _, _, h, _ => by cases h
  | .scr _, _, _, h, _ => by cases h
  | .ktp ds, _, _, h, ⟨a, xs, h1, h2, h3⟩ => by
    obtain ⟨ps, hp, rfl⟩ := Option.map_eq_some_iff.mp h
    subst h1
    exact .tup (same_t e h2.sq) (dps_of e ds ps xs hp h3)
theorem dps_of (e : Same G H) : ∀ (ds : List D) (ps : List PyData) (xs : List V), toPys ds = some ps → RepFs K G ds xs → DpAll K H xs ps
  | [], _, _, h, r => by cases h; cases r; exact .nil
  | d :: ds, _, _, h, ⟨x, r, h1, h2, h3⟩ => by
    obtain ⟨p, hp, h⟩ := Option.bind_eq_some_iff.mp h
    obtain ⟨ps, hps, rfl⟩ := Option.map_eq_some_iff.mp h
    subst h1
    exact .cons (dp_of e d p x hp h2) (dps_of e ds ps r hps h3)
end
theorem dp_ro (e : Same G H) {k : Nat} {d : D} {p : PyData} {v : V} {F : List Addr} (hk : eqOk (k, d) = true) (h : toPy d = some p) (r : RO K G H k d v F) : Dp K H v p := by
  by_cases hb : isBox d = true
  · have hk1 : k ≤ 1 := by
      unfold eqOk at hk
      simp only [hb, Bool.not_true, Bool.or_false, decide_eq_true_eq] at hk
      exact hk
    cases d <;> first | (cases hb; done) | skip
    · rename_i ds
      obtain ⟨a, xs, rfl, h1, h2⟩ := r.lst1 e hk1
      obtain ⟨ps, hp, rfl⟩ := Option.map_eq_some_iff.mp h
      exact .lst (.inl (.inl h1)) (dps_of e ds ps xs hp h2)
    · cases h
  · exact dp_of e d p v h (RO.plain (by simpa using hb) r).1
def rEqA (K : PySem.W.Frag) : R2 := fun x y H Q => rEq x y H Q ∨ rEqD K x y H Q
def rNeA (K : PySem.W.Frag) : R2 := fun x y H Q => rNe x y H Q ∨ rNeD K x y H Q
theorem op_eqA {X : Cx} (hu : X.A.units + 64 < cLine) : OpR X (compareOp .Eq) (rEqA X.K) := OpR.or op_eq (op_eqD hu)
theorem op_neA {X : Cx} (hu : X.A.units + 64 < cLine) : OpR X (compareOp .NotEq) (rNeA X.K) := OpR.or op_ne (op_neD hu)
theorem eq_core {u v : W} {x y : V} {Fu Fv : List Addr} {b : Bool} (e : Same G H) (ru : RO K G H u.1 u.2 x Fu) (rv : RO K G H v.1 v.2 y Fv) (ok : (eqOk u && eqOk v) = true) (h : gEqD u.2 v.2 = some b) :
    (scal x y = true ∧ decide (x = y) = b) ∨ ∃ d c, Dp K H x d ∧ Dp K H y c ∧ SeqAt.shaped d = true ∧ SeqAt.shaped c = true ∧ PyData.eqv d c = b := by
  obtain ⟨k, c⟩ := u
  obtain ⟨l, d⟩ := v
  rw [Bool.and_eq_true] at ok
  unfold gEqD at h
  split at h
  · rename_i b' hs
    cases h
    exact .inl (scal_of hs ru rv)
  · obtain ⟨p, hp, h⟩ := Option.bind_eq_some_iff.mp h
    obtain ⟨q, hq, h⟩ := Option.bind_eq_some_iff.mp h
    unfold gEqP at h
    split at h
    · rename_i hs
      cases h
      exact .inr ⟨p, q, dp_ro e ok.1 hp ru, dp_ro e ok.2 hq rv, hs.1, hs.2, rfl⟩
    · cases h
theorem g_eq : Op2 K (rEqA K) gEq := by
  intro G H u v x y Fu Fv w e ru rv hw
  unfold gEq at hw
  split at hw
  · rename_i ok
    obtain ⟨b, hb, rfl⟩ := Option.map_eq_some_iff.mp hw
    rcases eq_core e ru rv ok hb with ⟨h1, h2⟩ | ⟨d, c, h1, h2, h3, h4, h5⟩
    · exact Res.pure (v := .bl b) e rfl fun Q q => .inl ⟨h1, by rw [h2]; exact q⟩
    · exact Res.pure (v := .bl b) e rfl fun Q q => .inr ⟨d, c, h1, h2, h3, h4, by rw [h5]; exact q⟩
  · cases hw
theorem g_ne : Op2 K (rNeA K) gNe := by
  intro G H u v x y Fu Fv w e ru rv hw
  unfold gNe at hw
  split at hw
  · rename_i ok
    obtain ⟨b, hb, rfl⟩ := Option.map_eq_some_iff.mp hw
    rcases eq_core e ru rv ok hb with ⟨h1, h2⟩ | ⟨d, c, h1, h2, h3, h4, h5⟩
    · exact Res.pure (v := .bl (!b)) e rfl fun Q q => .inl ⟨h1, by rw [h2]; exact q⟩
    · exact Res.pure (v := .bl (!b)) e rfl fun Q q => .inr ⟨d, c, h1, h2, h3, h4, by rw [h5]; exact q⟩
  · cases hw
/-- is None -/
def isNon : D → Bool
  | .non => true
  | _ => false
theorem isNon_of {k : Nat} {d : D} {x : V} {F : List Addr} (r : RO K G H k d x F) : decide (x = .non) = isNon d := by
  cases d with
  | non => obtain rfl := r.non; rfl
  | bl b => obtain rfl := r.bl; rfl
  | int b => obtain rfl := r.int; rfl
  | str b => obtain rfl := r.str; rfl
  | tup ds => obtain ⟨a, xs, rfl, _⟩ := r.tup; rfl
  | scr ns => obtain ⟨a, rfl, _⟩ := r.scr; rfl
  | ktp ns => obtain ⟨a, xs, rfl, _⟩ := r.ktp; rfl
  | lst ds =>
    cases k with
    | zero => obtain ⟨⟨a, xs, rfl, _⟩, _⟩ := r; rfl
    | succ k => obtain ⟨a, xs, F', rfl, _⟩ := r; rfl
  | dct t ds =>
    cases k with
    | zero => obtain ⟨⟨a, xs, rfl, _⟩, _⟩ := r; rfl
    | succ k => obtain ⟨a, xs, F', rfl, _⟩ := r; rfl
def gIsN : W → W → Option W
  | (_, d), (_, .non) => some (0, .bl (isNon d))
  | _, _ => none
def gNotN : W → W → Option W
  | (_, d), (_, .non) => some (0, .bl (!isNon d))
  | _, _ => none
theorem g_isN : Op2 K (fun x y H Q => y = .non ∧ Q (.bl (decide (x = .non))) H) gIsN := by
  intro G H u v x y Fu Fv w e ru rv hw
  unfold gIsN at hw; split at hw
  · cases hw
    obtain rfl := rv.non
    exact Res.pure (v := .bl _) e rfl fun Q q => ⟨rfl, by rw [isNon_of ru]; exact q⟩
  · cases hw
theorem g_notN : Op2 K (fun x y H Q => y = .non ∧ Q (.bl (!decide (x = .non))) H) gNotN := by
  intro G H u v x y Fu Fv w e ru rv hw
  unfold gNotN at hw; split at hw
  · cases hw
    obtain rfl := rv.non
    exact Res.pure (v := .bl _) e rfl fun Q q => ⟨rfl, by rw [isNon_of ru]; exact q⟩
  · cases hw
/-! ### xs[i], xs[a:b] -/
theorem atI_rep {ds : List D} {xs : List V} {i : Int} {d : D} (h : RepFs K G ds xs) (e : atI ds i = some d) : ∃ x, atI xs i = some x ∧ RepF K G d x := by
  unfold atI at e ⊢
  rw [h.len]
  obtain ⟨j, hj, e⟩ := Option.bind_eq_some_iff.mp e
  obtain ⟨x, h1, h2⟩ := h.get e
  exact ⟨x, by rw [hj]; exact h1, h2⟩
theorem atI_map {α β : Type} {f : α → β} {xs : List α} {i : Int} {a : α} (e : atI xs i = some a) : atI (xs.map f) i = some (f a) := by
  unfold atI at e ⊢
  rw [List.length_map]
  obtain ⟨j, hj, e⟩ := Option.bind_eq_some_iff.mp e
  rw [hj]
  show (xs.map f)[j]? = some (f a)
  rw [List.getElem?_map, e]; rfl
def gIx : W → W → Option W
  | (k, .lst ds), (_, .int i) => if k ≤ 1 then (atI ds i).map fun d => (0, d) else none
  | (_, .tup ds), (_, .int i) => (atI ds i).map fun d => (0, d)
  | (_, .ktp ds), (_, .int i) => (atI ds i).map fun d => (0, d)
  | (_, .scr ns), (_, .int i) => (atI ns i).map fun n => (0, .int n)
  | (_, .str z), (_, .int i) => if z.length ≤ big then (atI z.cps.toList i).map fun c => (0, .str ⟨#[c]⟩) else none
  | _, _ => none
theorem g_ix : Op2 K (rIx K) gIx := by
  intro G H u v x y Fu Fv w e ru rv hw
  unfold gIx at hw; split at hw
  · split at hw
    · rename_i hk
      obtain ⟨d, hd, rfl⟩ := Option.map_eq_some_iff.mp hw
      obtain rfl := rv.int
      obtain ⟨a, xs, rfl, h1, h2⟩ := ru.lst1 e hk
      obtain ⟨z, h3, h4⟩ := atI_rep h2 hd
      exact Res.pure e h4 fun Q q => .inl ⟨a, xs, _, z, rfl, rfl, SqL.of h1, h3, q⟩
    · cases hw
  · obtain ⟨d, hd, rfl⟩ := Option.map_eq_some_iff.mp hw
    obtain rfl := rv.int
    obtain ⟨a, xs, rfl, h1, h2⟩ := ru.tup
    obtain ⟨z, h3, h4⟩ := atI_rep h2 hd
    exact Res.pure e h4 fun Q q => .inr (.inl ⟨a, xs, _, z, rfl, rfl, same_t e h1, h3, q⟩)
  · obtain ⟨d, hd, rfl⟩ := Option.map_eq_some_iff.mp hw
    obtain rfl := rv.int
    obtain ⟨a, xs, rfl, h1, h2⟩ := ru.ktp
    obtain ⟨z, h3, h4⟩ := atI_rep h2 hd
    exact Res.pure e h4 fun Q q => .inr (.inl ⟨a, xs, _, z, rfl, rfl, same_t e h1.sq, h3, q⟩)
  · obtain ⟨d, hd, rfl⟩ := Option.map_eq_some_iff.mp hw
    obtain rfl := rv.int
    obtain ⟨a, rfl, h1⟩ := ru.scr
    exact Res.pure (v := .int d) e rfl fun Q q => .inl ⟨a, _, _, .int d, rfl, rfl, same_l e h1, atI_map hd, q⟩
  · split at hw
    · rename_i hz
      obtain ⟨d, hd, rfl⟩ := Option.map_eq_some_iff.mp hw
      obtain rfl := rv.int
      obtain rfl := ru.str
      exact Res.pure (v := .str ⟨#[d]⟩) e rfl fun Q q => .inr (.inr ⟨_, _, _, rfl, rfl, big_line hz, hd, q⟩)
    · cases hw
  · cases hw
def cutL {α : Type} (xs : List α) (lo hi : Option Int) : List α := (xs.drop (HT.sIx xs.length 0 lo)).take (HT.sIx xs.length xs.length hi - HT.sIx xs.length 0 lo)
theorem cut_rep {ds : List D} {xs : List V} {lo hi : Option Int} (h : RepFs K G ds xs) : RepFs K G (cutL ds lo hi) (cutV xs lo hi) := by
  unfold cutL cutV
  rw [h.len]
  exact (h.drop _).take _
theorem cutL_whole {α : Type} {xs : List α} {lo hi : Option Int} (h : HT.sIx xs.length 0 lo = 0 ∧ HT.sIx xs.length xs.length hi = xs.length) : cutL xs lo hi = xs := by
  unfold cutL
  rw [h.1, h.2]
  simp
end
end Pv
set_option Elab.async false
set_option linter.all false
set_option maxRecDepth 100000
/-! P5: slices, arguments, displays, builtins, tests -/
namespace Pv
open PySem PySem.Spec PyProof.Rows L2
section
variable {X : Cx} {K : PySem.W.Frag} {G0 G G' H H' : Hp} {σ : L2.St} {ρ : Env} {e a b c : Expr} {es : List Expr} {pos : Pos} {A B C : Fe} {T : Fb}
/-! ### slices -/
def oNone : Fo := fun _ => some none
def oSome (A : Fe) : Fo := fun ρ => (val A ρ).bind fun w => match w.2 with | .int i => some (some i) | _ => none
theorem o_none : OkO X none oNone := PO.imp po_none fun σ H Q ⟨G0, ρ, ws, o, I, hf, q⟩ => by
  cases hf
  exact q H I
theorem o_some (h : OkE X e A) : OkO X (some e) (oSome A) := PO.imp (po_some h) fun σ H Q ⟨G0, ρ, ws, o, I, hf, q⟩ => by
  obtain ⟨w, hw, hf⟩ := Option.bind_eq_some_iff.mp hf
  obtain ⟨x, hx, hg⟩ := val_some hw
  refine ⟨G0, ρ, ws, x, I, hx, fun v H' I' => ?_⟩
  obtain ⟨G, F1, F2, J⟩ := I'
  obtain ⟨Fx, r⟩ := J.top hg
  obtain ⟨k, d⟩ := w
  cases d <;> first | (cases hf; done) | skip
  rename_i i
  cases hf
  exact ⟨i, r.int, q H' (SI.drop ⟨G, F1, F2, J⟩)⟩
def gSl : W → Option Int → Option Int → Option W
  | (k, .lst ds), lo, hi => if k ≤ 1 then some (1, .lst (cutL ds lo hi)) else none
  | (_, .tup ds), lo, hi => some (0, .tup (cutL ds lo hi))
  | (_, .str z), lo, hi => if z.length ≤ big then some (0, .str (cutS z lo hi)) else none
  | _, _, _ => none
def rSlAll (K : PySem.W.Frag) : V → Option Int → Option Int → Hp → VK → Prop := fun x lo hi H Q => rSlL K x lo hi H Q ∨ rSlA K x lo hi H Q ∨ rSlS x lo hi H Q
theorem sl_all : SlR X (rSlAll X.K) := SlR.or sl_list (SlR.or sl_tupA sl_str)
theorem g_sl {lo hi : Option Int} {u w : W} {x : V} {Fu : List Addr} (e : Same G H) (ru : RO K G H u.1 u.2 x Fu) (hw : gSl u lo hi = some w) : Res K G H w (rSlAll K x lo hi H) := by
  unfold gSl at hw; split at hw
  · split at hw
    · rename_i hk
      cases hw
      obtain ⟨a, xs, rfl, h1, h2⟩ := ru.lst1 e hk
      exact Res.lst e (cut_rep h2) fun Q q => .inl ⟨a, xs, rfl, SqL.of h1, q⟩
    · cases hw
  · cases hw
    obtain ⟨a, xs, rfl, h1, h2⟩ := ru.tupE
    intro Q q
    refine .inr (.inl ⟨a, xs, rfl, SqT.of (e _ _ h1), fun z => ?_, fun z p hp => ?_⟩)
    · rw [h2.len] at z
      rw [cutL_whole z] at q
      exact q _ H G [] (Grow.refl e) ⟨⟨a, xs, rfl, h1, h2⟩, rfl⟩
    · have g := Grow.newF (o := .tup (cutV xs lo hi)) e hp
      exact q _ _ _ [] g ⟨⟨p, _, rfl, upd_same, RepFs.mono g.gg _ _ (cut_rep h2)⟩, rfl⟩
  · split at hw
    · rename_i hz
      cases hw
      obtain rfl := ru.str
      exact Res.pure e rfl fun Q q => .inr (.inr ⟨_, rfl, big_line hz, q⟩)
    · cases hw
  · cases hw
def pSl (A : Fe) (lo hi : Fo) : Fe := fun ρ => (val A ρ).bind fun u => (lo ρ).bind fun l => (hi ρ).bind fun h => (gSl u l h).map fun w => .v w.1 w.2
theorem e_sl {lo hi : Option Expr} {L U : Fo} {p2 : Pos} (h : OkE X e A) (hl : OkO X lo L) (hu : OkO X hi U) : OkE X (.Subscript e (.Slice lo hi none p2) pos) (pSl A L U) := PE.imp (pe_slice sl_all h hl hu) fun σ H Q ⟨G0, ρ, ws, x, I, hf, q⟩ => by
  obtain ⟨u, hu, hf⟩ := Option.bind_eq_some_iff.mp hf
  obtain ⟨l, hl, hf⟩ := Option.bind_eq_some_iff.mp hf
  obtain ⟨h, hh, hf⟩ := Option.bind_eq_some_iff.mp hf
  obtain ⟨w, hw, rfl⟩ := Option.map_eq_some_iff.mp hf
  obtain ⟨a1, ha, hg1⟩ := val_some hu
  refine ⟨G0, ρ, ws, a1, I, ha, fun x H1 I1 => ⟨G0, ρ, (x, a1) :: ws, l, I1, hl, fun H2 I2 => ⟨G0, ρ, (x, a1) :: ws, h, I2, hh, fun H3 I3 => ?_⟩⟩⟩
  obtain ⟨G, F1, F2, J⟩ := I3
  obtain ⟨Fx, rx⟩ := J.top hg1
  refine g_sl J.ex rx hw Q fun v H' G' F' gr rv => ?_
  obtain ⟨F2', _, J'⟩ := J.drop
  exact q v H' (J'.push gr rv).SI
/-! ### argument lists, displays -/
def aNil : Fa := fun _ => some []
def aCons (A : Fe) (B : Fa) : Fa := fun ρ => (A ρ).bind fun a => (B ρ).map fun as => a :: as
theorem a_nil : OkA X [] aNil := PA.imp pa_nil fun σ H Q ⟨G0, ρ, ws, as, I, hf, q⟩ => by
  cases hf
  exact q [] H rfl I
theorem a_cons {B : Fa} (ha : OkE X e A) (hr : OkA X es B) (hs : starEach (e :: es) X.env = (false, eval e X.env) :: starEach es X.env := by rfl) : OkA X (e :: es) (aCons A B) := PA.imp (pa_cons ha hr hs) fun σ H Q ⟨G0, ρ, ws, as, I, hf, q⟩ => by
  obtain ⟨x, hx, hf⟩ := Option.bind_eq_some_iff.mp hf
  obtain ⟨xs, hxs, rfl⟩ := Option.map_eq_some_iff.mp hf
  refine ⟨G0, ρ, ws, x, I, hx, fun v H1 I1 => ⟨G0, ρ, (v, x) :: ws, xs, I1, hxs, fun vs H2 hl I2 => ?_⟩⟩
  refine q (v :: vs) H2 (by rw [List.length_cons, List.length_cons, hl]) ?_
  rw [List.zip_cons_cons, List.reverse_cons, List.append_assoc]
  exact I2
/-- the waiting values ahead are taken off -/
theorem Si.dropN : ∀ (pre : List (V × Arg)) {ws : List (V × Arg)} {F1 F2 : List Addr}, Si K G0 σ ρ (pre ++ ws) H G F1 F2 → ∃ F2', Si K G0 σ ρ ws H G F1 F2'
  | [], ws, F1, F2, I => ⟨F2, I⟩
  | (x, a) :: pre, ws, F1, F2, I => by
    obtain ⟨F2', _, I'⟩ := Si.drop I
    exact Si.dropN pre I'
theorem Si.mem : ∀ (pre : List (V × Arg)) {ws : List (V × Arg)} {F1 F2 : List Addr}, Si K G0 σ ρ (pre ++ ws) H G F1 F2 → ∀ x a w, (x, a) ∈ pre → a.get ρ = some w → ∃ Fx, RO K G H w.1 w.2 x Fx
  | [], ws, F1, F2, I, _, _, _, h, _ => by cases h
  | (y, b) :: pre, ws, F1, F2, I, x, a, w, h, hg => by
    rcases List.mem_cons.mp h with e | h
    · cases e
      exact Si.top I hg
    · obtain ⟨F2', _, I'⟩ := Si.drop I
      exact Si.mem pre I' x a w h hg
/-- the data of arguments -/
def getAll (ρ : Env) : List Arg → Option (List W)
  | [] => some []
  | a :: as => (a.get ρ).bind fun w => (getAll ρ as).map fun ws => w :: ws
def ROW (K : PySem.W.Frag) (G H : Hp) : List W → List V → Prop
  | [], xs => xs = []
  | u :: us, xs => ∃ x r F, xs = x :: r ∧ RO K G H u.1 u.2 x F ∧ ROW K G H us r
theorem row_of : ∀ (as : List Arg) (vs : List V) (us : List W), vs.length = as.length → getAll ρ as = some us → (∀ x a w, (x, a) ∈ vs.zip as → a.get ρ = some w → ∃ Fx, RO K G H w.1 w.2 x Fx) → ROW K G H us vs
  | [], vs, us, hl, hg, _ => by
    cases hg
    exact List.eq_nil_of_length_eq_zero hl
  | a :: as, [], us, hl, _, _ => by simp at hl
  | a :: as, v :: vs, us, hl, hg, f => by
    obtain ⟨w, hw, hg⟩ := Option.bind_eq_some_iff.mp hg
    obtain ⟨ws, hws, rfl⟩ := Option.map_eq_some_iff.mp hg
    obtain ⟨F, hF⟩ := f v a w (by rw [List.zip_cons_cons]; exact List.mem_cons_self) hw
    exact ⟨v, vs, F, rfl, hF, row_of as vs ws (by simpa using hl) hws fun x b w' hm hg' => f x b w' (by rw [List.zip_cons_cons]; exact List.mem_cons_of_mem _ hm) hg'⟩
theorem Si.rows {vs : List V} {as : List Arg} {us : List W} {ws : List (V × Arg)} {F1 F2 : List Addr} (I : Si K G0 σ ρ ((vs.zip as).reverse ++ ws) H G F1 F2) (hl : vs.length = as.length) (hg : getAll ρ as = some us) : ROW K G H us vs :=
  row_of as vs us hl hg fun x a w hm h => Si.mem _ I x a w (List.mem_reverse.mpr hm) h
/-- a call with values -/
def OpN (K : PySem.W.Frag) (r : List V → Hp → VK → Prop) (g : List W → Option W) : Prop := ∀ G H us xs w, Same G H → ROW K G H us xs → g us = some w → Res K G H w (r xs H)
def pCall (g : List W → Option W) (A : Fa) : Fe := fun ρ => (A ρ).bind fun as => (getAll ρ as).bind fun us => (g us).map fun w => .v w.1 w.2
theorem opN_imp {r : List V → Hp → VK → Prop} {g : List W → Option W} {B : Fa} (hg : OpN K r g) (σ : L2.St) (H : Hp) (Q : VK) (h : tE K (pCall g B) σ H Q) : tA K B σ H fun xs H1 => r xs H1 Q := by
  obtain ⟨G0, ρ, ws, a, I, hf, q⟩ := h
  obtain ⟨as, has, hf⟩ := Option.bind_eq_some_iff.mp hf
  obtain ⟨us, hus, hf⟩ := Option.bind_eq_some_iff.mp hf
  obtain ⟨w, hw, rfl⟩ := Option.map_eq_some_iff.mp hf
  refine ⟨G0, ρ, ws, as, I, has, fun vs H1 hl I1 => ?_⟩
  obtain ⟨G, F1, F2, J⟩ := I1
  refine hg G H1 us vs w J.ex (J.rows hl hus) hw Q fun v H' G' F' gr rv => ?_
  obtain ⟨F2', J'⟩ := Si.dropN _ J
  exact q v H' (J'.push gr rv).SI
/-- items of a display: frozen -/
def ownAll : List Arg → Option (List D)
  | [] => some []
  | .v _ d :: as => (ownAll as).map fun ds => d :: ds
  | .r _ :: _ => none
theorem Si.freezeN : ∀ (as : List Arg) (vs : List V) (ds : List D) {ws : List (V × Arg)} {G : Hp} {F1 F2 : List Addr}, vs.length = as.length → ownAll as = some ds → Si K G0 σ ρ (vs.zip as ++ ws) H G F1 F2 →
    ∃ G' F2', Si K G0 σ ρ ws H G' F1 F2' ∧ Same G G' ∧ RepFs K G' ds vs
  | [], vs, ds, ws, G, F1, F2, hl, ho, I => by
    cases ho
    obtain rfl := List.eq_nil_of_length_eq_zero hl
    exact ⟨G, F2, I, Same.refl _, rfl⟩
  | .r _ :: as, vs, ds, ws, G, F1, F2, hl, ho, I => by cases ho
  | .v k d :: as, [], ds, ws, G, F1, F2, hl, ho, I => by simp at hl
  | .v k d :: as, v :: vs, ds, ws, G, F1, F2, hl, ho, I => by
    obtain ⟨ds', hd, rfl⟩ := Option.map_eq_some_iff.mp ho
    obtain ⟨G1, F3, I1, e1, r1⟩ := Si.freeze I
    obtain ⟨G2, F4, I2, e2, r2⟩ := Si.freezeN as vs ds' (by simpa using hl) hd I1
    exact ⟨G2, F4, I2, e1.trans e2, v, vs, rfl, RepF.mono e2 _ _ r1, r2⟩
theorem perm_nodup {l1 l2 : List Addr} (h : l1.Perm l2) (n : l1.Nodup) : l2.Nodup := h.nodup_iff.mp n
theorem RWs.perm {pre pre' : List (V × Arg)} (h : pre.Perm pre') : ∀ {F : List Addr}, RWs K G H σ ρ pre F → ∃ F', F.Perm F' ∧ RWs K G H σ ρ pre' F' := by
  induction h with
  | nil => intro F h; exact ⟨F, .refl _, h⟩
  | @cons p l1 l2 _ ih =>
    obtain ⟨x, a⟩ := p
    intro F h
    cases a with
    | v k d =>
      obtain ⟨Fa, Fb, h2, h3, h4⟩ := h
      obtain ⟨Fc, hp, hc⟩ := ih h4
      subst h2
      exact ⟨Fa ++ Fc, hp.append_left Fa, Fa, Fc, rfl, h3, hc⟩
    | r i =>
      obtain ⟨h1, h2, h3⟩ := h
      obtain ⟨Fc, hp, hc⟩ := ih h3
      exact ⟨Fc, hp, h1, h2, hc⟩
  | @swap p q l =>
    obtain ⟨x, a⟩ := p
    obtain ⟨y, b⟩ := q
    intro F h
    cases b with
    | v k d =>
      obtain ⟨Fa, Fb, h2, h3, h4⟩ := h
      subst h2
      cases a with
      | v k' d' =>
        obtain ⟨Fc, Fd, h5, h6, h7⟩ := h4
        subst h5
        refine ⟨Fc ++ (Fa ++ Fd), ?_, Fc, Fa ++ Fd, rfl, h6, Fa, Fd, rfl, h3, h7⟩
        rw [← List.append_assoc, ← List.append_assoc]
        exact List.perm_append_comm.append_right Fd
      | r i =>
        obtain ⟨h5, h6, h7⟩ := h4
        exact ⟨Fa ++ Fb, .refl _, h5, h6, Fa, Fb, rfl, h3, h7⟩
    | r i =>
      obtain ⟨h1, h2, h4⟩ := h
      cases a with
      | v k' d' =>
        obtain ⟨Fc, Fd, h5, h6, h7⟩ := h4
        exact ⟨F, .refl _, Fc, Fd, h5, h6, h1, h2, h7⟩
      | r j =>
        obtain ⟨h5, h6, h7⟩ := h4
        exact ⟨F, .refl _, h5, h6, h1, h2, h7⟩
  | trans _ _ ih1 ih2 =>
    intro F h
    obtain ⟨F1, p1, h1⟩ := ih1 h
    obtain ⟨F2, p2, h2⟩ := ih2 h1
    exact ⟨F2, p1.trans p2, h2⟩
theorem Si.perm {ws ws' : List (V × Arg)} {F1 F2 : List Addr} (h : ws.Perm ws') (I : Si K G0 σ ρ ws H G F1 F2) : ∃ F2', Si K G0 σ ρ ws' H G F1 F2' := by
  obtain ⟨F2', hp, h'⟩ := RWs.perm h I.wv
  refine ⟨F2', I.ex0, I.ex, I.sl, h', perm_nodup (hp.append_left F1) I.nd, fun a ha => I.fr a ?_, I.tu, I.ln⟩
  exact (hp.append_left F1).mem_iff.mpr ha
def pTup (A : Fa) : Fe := fun ρ => (A ρ).bind fun as => if as.length ≤ 1000 then (ownAll as).map fun ds => .v 0 (.tup ds) else none
def pLst (A : Fa) : Fe := fun ρ => (A ρ).bind fun as => if as.length ≤ 1000 then (ownAll as).map fun ds => .v 1 (.lst ds) else none
theorem e_tup {B : Fa} {x1} (h : OkA X es B) : OkE X (.Tuple es x1 pos) (pTup B) := PE.imp (pe_tup h) fun σ H Q ⟨G0, ρ, ws, a, I, hf, q⟩ => by
  obtain ⟨as, has, hf⟩ := Option.bind_eq_some_iff.mp hf
  split at hf
  · rename_i hz
    obtain ⟨ds, hd, rfl⟩ := Option.map_eq_some_iff.mp hf
    refine ⟨G0, ρ, ws, as, I, has, fun vs H1 hl I1 => ⟨by rw [hl]; exact Nat.le_trans hz (by decide), fun p hp => ?_⟩⟩
    obtain ⟨G, F1, F2, J⟩ := I1
    obtain ⟨F3, J⟩ := Si.perm ((List.reverse_perm _).append_right ws) J
    obtain ⟨G1, F4, J1, e1, r1⟩ := Si.freezeN as vs ds hl hd J
    have g := Grow.newF (o := .tup vs) J1.ex hp
    exact q _ _ (J1.push (k := 0) (d := .tup ds) g ⟨⟨p, vs, rfl, upd_same, RepFs.mono g.gg _ _ r1⟩, rfl⟩).SI
  · cases hf
theorem e_lst {B : Fa} (h : OkA X es B) : OkE X (.List es pos) (pLst B) := PE.imp (pe_lst h) fun σ H Q ⟨G0, ρ, ws, a, I, hf, q⟩ => by
  obtain ⟨as, has, hf⟩ := Option.bind_eq_some_iff.mp hf
  split at hf
  · rename_i hz
    obtain ⟨ds, hd, rfl⟩ := Option.map_eq_some_iff.mp hf
    refine ⟨G0, ρ, ws, as, I, has, fun vs H1 hl I1 => ⟨by rw [hl]; exact Nat.le_trans hz (by decide), fun p hp => ?_⟩⟩
    obtain ⟨G, F1, F2, J⟩ := I1
    obtain ⟨F3, J⟩ := Si.perm ((List.reverse_perm _).append_right ws) J
    obtain ⟨G1, F4, J1, e1, r1⟩ := Si.freezeN as vs ds hl hd J
    have g := Grow.newO (o := .lst vs) J1.ex hp trivial
    exact q _ _ (J1.push (k := 1) (d := .lst ds) g ⟨p, vs, [], rfl, upd_same, rfl, ROs.of_F r1⟩).SI
  · cases hf
/-- a builtin function, a builtin class, called by its name -/
theorem e_bi {x : Str} {p : Pos} {id : String} {r : List V → Hp → VK → Prop} {g : List W → Option W} {B : Fa} (hc : CallR X (.builtin id) r) (ho : OpN X.K r g) (hg : Gl X x) (hm : X.mg x = none) (hv : bootBuiltins x = some (.builtin id)) (ha : OkA X (e :: es) B)
    (hn : x ≠ "__name__" := by decide) (hd : (x == ("__debug__" : Str)) = false := by decide) (hs : starEach (e :: es) X.env = (false, eval e X.env) :: starEach es X.env := by rfl) (hp : (backTo pos (starEach es X.env)).any (·.1) = false := by rfl) :
    OkE X (.Call (.Name x p) (e :: es) [] pos) (pCall g B) := PE.imp (pe_callB hc hg hm hv ha hn hd hs hp) (opN_imp ho)
theorem e_ty {x : Str} {p : Pos} {T : String} {r : List V → Hp → VK → Prop} {g : List W → Option W} {B : Fa} (hc : CallR X (.type T) r) (ho : OpN X.K r g) (hg : Gl X x) (hm : X.mg x = none) (hv : bootBuiltins x = some (.type T)) (ha : OkA X (e :: es) B)
    (hn : x ≠ "__name__" := by decide) (hd : (x == ("__debug__" : Str)) = false := by decide) (hs : starEach (e :: es) X.env = (false, eval e X.env) :: starEach es X.env := by rfl) (hp : (backTo pos (starEach es X.env)).any (·.1) = false := by rfl) :
    OkE X (.Call (.Name x p) (e :: es) [] pos) (pCall g B) := PE.imp (pe_callTy hc hg hm hv ha hn hd hs hp) (opN_imp ho)
theorem ROW.one {u : W} {xs : List V} (h : ROW K G H [u] xs) : ∃ x F, xs = [x] ∧ RO K G H u.1 u.2 x F := by
  obtain ⟨x, r, F, h1, h2, h3⟩ := h
  exact ⟨x, F, by rw [h1, show r = [] from h3], h2⟩
theorem ROW.two {u v : W} {xs : List V} (h : ROW K G H [u, v] xs) : ∃ x y F F', xs = [x, y] ∧ RO K G H u.1 u.2 x F ∧ RO K G H v.1 v.2 y F' := by
  obtain ⟨x, r, F, h1, h2, h3⟩ := h
  obtain ⟨y, F', rfl, h4⟩ := ROW.one h3
  exact ⟨x, y, F, F', h1, h2, h4⟩
def on1 (g : W → Option W) : List W → Option W
  | [u] => g u
  | _ => none
def on2 (g : W → W → Option W) : List W → Option W
  | [u, v] => g u v
  | _ => none
theorem opN_1 {r : List V → Hp → VK → Prop} {g : W → Option W} (h : Op1 K (fun x H Q => r [x] H Q) g) : OpN K r (on1 g) := by
  intro G H us xs w e hr hw
  unfold on1 at hw
  split at hw
  · obtain ⟨x, F, rfl, h1⟩ := hr.one
    exact h G H _ x F w e h1 hw
  · cases hw
theorem opN_2 {r : List V → Hp → VK → Prop} {g : W → W → Option W} (h : Op2 K (fun x y H Q => r [x, y] H Q) g) : OpN K r (on2 g) := by
  intro G H us xs w e hr hw
  unfold on2 at hw
  split at hw
  · obtain ⟨x, y, F, F', rfl, h1, h2⟩ := hr.two
    exact h G H _ _ x y F F' w e h1 h2 hw
  · cases hw
/-! ### tests -/
def truth : W → Option Bool
  | (_, .non) => some false
  | (_, .bl b) => some b
  | (_, .int i) => some (i != 0)
  | (_, .str z) => if z.length ≤ big then some ((z.length : Int) != 0) else none
  | (_, .tup ds) => some (!ds.isEmpty)
  | (_, .lst ds) => some (!ds.isEmpty)
  | _ => none
theorem empty_len {α β : Type} {xs : List α} {ys : List β} (h : xs.length = ys.length) : xs.isEmpty = ys.isEmpty := by
  cases xs <;> cases ys <;> simp at h ⊢
theorem truth_of {w : W} {x : V} {F : List Addr} {b : Bool} (e : Same G H) (r : RO K G H w.1 w.2 x F) (h : truth w = some b) : TruV K x H b := by
  unfold truth at h; split at h
  · cases h; obtain rfl := r.non; rfl
  · cases h; obtain rfl := r.bl; rfl
  · cases h; obtain rfl := r.int; rfl
  · split at h
    · rename_i hz
      cases h; obtain rfl := r.str; exact ⟨big_line hz, rfl⟩
    · cases h
  · cases h
    obtain ⟨a, xs, rfl, h1, h2⟩ := r.tup
    exact .inr (.inl ⟨xs, same_t e h1, by rw [empty_len h2.len]⟩)
  · cases h
    obtain ⟨a, xs, rfl, h1, h2⟩ := r.lstN e
    exact .inl ⟨xs, SqL.of h1, by rw [empty_len h2]⟩
  · cases h
def bTru (A : Fe) : Fb := fun ρ => (val A ρ).bind truth
def bVal (A : Fe) : Fb := fun ρ => (val A ρ).bind fun w => match w.2 with | .bl b => some b | _ => none
theorem t_tru (h : OkE X e A) (he : ∀ whole, isTrue e X.env whole = (do let v ← whole; standAt e.pos; holding [v] (truthy v)) := by exact fun _ => rfl) : OkT X e (bTru A) := PT.imp (pt_truth h he) fun σ H Q ⟨G0, ρ, ws, b, I, hf, q⟩ => by
  obtain ⟨w, hw, hf⟩ := Option.bind_eq_some_iff.mp hf
  obtain ⟨a, ha, hg⟩ := val_some hw
  refine ⟨G0, ρ, ws, a, I, ha, fun x H1 I1 => ?_⟩
  obtain ⟨G, F1, F2, J⟩ := I1
  obtain ⟨Fx, rx⟩ := J.top hg
  exact ⟨b, truth_of J.ex rx hf, q H1 (SI.drop ⟨G, F1, F2, J⟩)⟩
/-- a reading of bools, as a test -/
theorem bVal_imp {t : TE} (hi : ∀ σ H Q, tE K A σ H Q → t σ H Q) (σ : L2.St) (H : Hp) (Q : Bool → Hp → Prop) (h : tT K (bVal A) σ H Q) : t σ H fun x H' => ∃ k, x = .bl k ∧ Q k H' := by
  obtain ⟨G0, ρ, ws, b, I, hf, q⟩ := h
  obtain ⟨w, hw, hf⟩ := Option.bind_eq_some_iff.mp hf
  obtain ⟨a, ha, hg⟩ := val_some hw
  refine hi _ _ _ ⟨G0, ρ, ws, a, I, ha, fun x H1 I1 => ?_⟩
  obtain ⟨G, F1, F2, J⟩ := I1
  obtain ⟨Fx, rx⟩ := J.top hg
  obtain ⟨k, d⟩ := w
  cases d <;> first | (cases hf; done) | skip
  cases hf
  exact ⟨b, rx.bl, q H1 (SI.drop ⟨G, F1, F2, J⟩)⟩
theorem t_val (h : OkE X e A) (he : ∀ whole, isTrue e X.env whole = (do let v ← whole; standAt e.pos; holding [v] (truthy v)) := by exact fun _ => rfl) : OkT X e (bVal A) := PT.imp (pt_val h he) (bVal_imp fun _ _ _ h => h)
theorem t_cmp {op : CmpOp} {r : R2} {g : W → W → Option W} (ho : OpR X (compareOp op) r) (hg : Op2 X.K r g) (ha : OkE X a A) (hb : OkE X b B) (hm : behindInMarks op b = false := by rfl) : OkT X (.Compare a [op] [b] pos) (bVal (pOp2 g A B)) :=
  PT.imp (pt_cmpR ho ha hb hm) (bVal_imp (op2_imp hg))
def bNot (T : Fb) : Fb := fun ρ => (T ρ).map (!·)
theorem t_not (h : OkT X e T) : OkT X (.UnaryOp .Not e pos) (bNot T) := PT.imp (pt_not h) fun σ H Q ⟨G0, ρ, ws, b, I, hf, q⟩ => by
  obtain ⟨c, hc, rfl⟩ := Option.map_eq_some_iff.mp hf
  exact ⟨G0, ρ, ws, c, I, hc, q⟩
def bAnd (T U : Fb) : Fb := fun ρ => (T ρ).bind fun c => if c = true then U ρ else some false
def bOr (T U : Fb) : Fb := fun ρ => (T ρ).bind fun c => if c = true then some true else U ρ
def OkW (X : Cx) (e : Expr) (f : Fb) : Prop := PW X e (tT X.K f)
theorem OkW.t (h : OkW X e T) : OkT X e T := PW.pt h
theorem w_and1 (h : OkT X a T) : OkW X (.BoolOp .And [a] pos) T := pw_and1 h
theorem w_or1 (h : OkT X a T) : OkW X (.BoolOp .Or [a] pos) T := pw_or1 h
theorem w_and {U : Fb} {rest : List Expr} (ha : OkT X a T) (hb : OkW X (.BoolOp .And (b :: rest) pos) U) : OkW X (.BoolOp .And (a :: b :: rest) pos) (bAnd T U) := PW.imp (pw_and ha hb) fun σ H Q ⟨G0, ρ, ws, k, I, hf, q⟩ => by
  obtain ⟨c, hc, hf⟩ := Option.bind_eq_some_iff.mp hf
  refine ⟨G0, ρ, ws, c, I, hc, fun H1 I1 => ?_⟩
  cases c with
  | true => rw [if_pos rfl] at hf ⊢; exact ⟨G0, ρ, ws, k, I1, hf, q⟩
  | false => rw [if_neg Bool.false_ne_true] at hf ⊢; cases hf; exact q H1 I1
theorem w_or {U : Fb} {rest : List Expr} (ha : OkT X a T) (hb : OkW X (.BoolOp .Or (b :: rest) pos) U) : OkW X (.BoolOp .Or (a :: b :: rest) pos) (bOr T U) := PW.imp (pw_or ha hb) fun σ H Q ⟨G0, ρ, ws, k, I, hf, q⟩ => by
  obtain ⟨c, hc, hf⟩ := Option.bind_eq_some_iff.mp hf
  refine ⟨G0, ρ, ws, c, I, hc, fun H1 I1 => ?_⟩
  cases c with
  | true => rw [if_pos rfl] at hf ⊢; cases hf; exact q H1 I1
  | false => rw [if_neg Bool.false_ne_true] at hf ⊢; exact ⟨G0, ρ, ws, k, I1, hf, q⟩
/-! ### and, or, not, if as values; chains -/
def pIf (T : Fb) (A B : Fe) : Fe := fun ρ => (T ρ).bind fun c => if c = true then A ρ else B ρ
theorem e_if (hc : OkT X c T) (ha : OkE X a A) (hb : OkE X b B) : OkE X (.IfExp c a b pos) (pIf T A B) := PE.imp (pe_ifExp hc ha hb) fun σ H Q ⟨G0, ρ, ws, k, I, hf, q⟩ => by
  obtain ⟨c, hc, hf⟩ := Option.bind_eq_some_iff.mp hf
  refine ⟨G0, ρ, ws, c, I, hc, fun H1 I1 => ?_⟩
  cases c with
  | true => rw [if_pos rfl] at hf ⊢; exact ⟨G0, ρ, ws, k, I1, hf, q⟩
  | false => rw [if_neg Bool.false_ne_true] at hf ⊢; exact ⟨G0, ρ, ws, k, I1, hf, q⟩
def pAnd (A B : Fe) : Fe := fun ρ => (bVal A ρ).bind fun c => if c = true then B ρ else some (.v 0 (.bl false))
def pOr (A B : Fe) : Fe := fun ρ => (bVal A ρ).bind fun c => if c = true then some (.v 0 (.bl true)) else B ρ
theorem push_bl {G0 : Hp} {ρ : Env} {ws : List (V × Arg)} {k : Bool} (I : SI K G0 σ ρ ws H) : SI K G0 σ ρ ((.bl k, .v 0 (.bl k)) :: ws) H := by
  obtain ⟨G, F1, F2, J⟩ := I
  exact (J.pushF (d := .bl k) rfl).SI
theorem e_one {op} (h : OkE X a A) : OkE X (.BoolOp op [a] pos) A := pe_one h
theorem e_and {rest : List Expr} (ha : OkE X a A) (hb : OkE X (.BoolOp .And (b :: rest) pos) B) : OkE X (.BoolOp .And (a :: b :: rest) pos) (pAnd A B) := PE.imp (pe_and ha hb) fun σ H Q ⟨G0, ρ, ws, k, I, hf, q⟩ => by
  obtain ⟨c, hc, hf⟩ := Option.bind_eq_some_iff.mp hf
  refine bVal_imp (fun _ _ _ h => h) σ H _ ⟨G0, ρ, ws, c, I, hc, fun H1 I1 => ?_⟩
  cases c with
  | true => rw [if_pos rfl] at hf ⊢; exact ⟨G0, ρ, ws, k, I1, hf, q⟩
  | false => rw [if_neg Bool.false_ne_true] at hf ⊢; cases hf; exact q _ H1 (push_bl I1)
theorem e_or {rest : List Expr} (ha : OkE X a A) (hb : OkE X (.BoolOp .Or (b :: rest) pos) B) : OkE X (.BoolOp .Or (a :: b :: rest) pos) (pOr A B) := PE.imp (pe_or ha hb) fun σ H Q ⟨G0, ρ, ws, k, I, hf, q⟩ => by
  obtain ⟨c, hc, hf⟩ := Option.bind_eq_some_iff.mp hf
  refine bVal_imp (fun _ _ _ h => h) σ H _ ⟨G0, ρ, ws, c, I, hc, fun H1 I1 => ?_⟩
  cases c with
  | true => rw [if_pos rfl] at hf ⊢; cases hf; exact q _ H1 (push_bl I1)
  | false => rw [if_neg Bool.false_ne_true] at hf ⊢; exact ⟨G0, ρ, ws, k, I1, hf, q⟩
def pNot (A : Fe) : Fe := fun ρ => ((val A ρ).bind truth).map fun b => .v 0 (.bl (!b))
theorem e_not (ha : OkE X a A) : OkE X (.UnaryOp .Not a pos) (pNot A) := PE.imp (pe_notT ha) fun σ H Q ⟨G0, ρ, ws, k, I, hf, q⟩ => by
  obtain ⟨b, hb, rfl⟩ := Option.map_eq_some_iff.mp hf
  obtain ⟨w, hw, hb⟩ := Option.bind_eq_some_iff.mp hb
  obtain ⟨a, ha, hg⟩ := val_some hw
  refine ⟨G0, ρ, ws, a, I, ha, fun x H1 I1 => ?_⟩
  obtain ⟨G, F1, F2, J⟩ := I1
  obtain ⟨Fx, rx⟩ := J.top hg
  exact ⟨b, truth_of J.ex rx hb, q _ H1 (push_bl (SI.drop ⟨G, F1, F2, J⟩))⟩
def pChain (g g' : W → W → Option W) (A B C : Fe) : Fe := fun ρ => (val A ρ).bind fun u => (val B ρ).bind fun v => (g u v).bind fun w => match w.2 with
  | .bl true => (val C ρ).bind fun z => (g' v z).map fun w => .v w.1 w.2
  | .bl false => some (.v 0 (.bl false))
  | _ => none
theorem chain_imp {r r' : R2} {g g' : W → W → Option W} (hg : Op2 K r g) (hg' : Op2 K r' g') (σ : L2.St) (H : Hp) (Q : VK) (h : tE K (pChain g g' A B C) σ H Q) : tChain r r' (tE K A) (tE K B) (tE K C) σ H Q := by
  obtain ⟨G0, ρ, ws, a, I, hf, q⟩ := h
  obtain ⟨u, hu, hf⟩ := Option.bind_eq_some_iff.mp hf
  obtain ⟨v, hv, hf⟩ := Option.bind_eq_some_iff.mp hf
  obtain ⟨w, hw, hf⟩ := Option.bind_eq_some_iff.mp hf
  obtain ⟨a1, ha, hg1⟩ := val_some hu
  obtain ⟨a2, hb, hg2⟩ := val_some hv
  refine ⟨G0, ρ, ws, a1, I, ha, fun x H1 I1 => ⟨G0, ρ, (x, a1) :: ws, a2, I1, hb, fun y H2 I2 => ?_⟩⟩
  obtain ⟨G, F1, F2, J⟩ := I2
  obtain ⟨Fy, ry⟩ := J.top hg2
  obtain ⟨Fx, rx⟩ := J.next hg1
  refine hg G H2 u v x y Fx Fy w J.ex rx ry hw _ fun z H' G' F' gr rv => ?_
  obtain ⟨k, d⟩ := w
  cases d <;> first | (cases hf; done) | skip
  rename_i b
  refine ⟨b, RO.bl rv, ?_⟩
  have I3 : SI K G0 σ ρ ((y, a2) :: (x, a1) :: ws) H' := (J.grow gr).SI
  cases b with
  | false =>
    rw [if_neg Bool.false_ne_true]
    cases hf
    exact q _ H' (push_bl (SI.drop (SI.drop I3)))
  | true =>
    rw [if_pos rfl]
    obtain ⟨zz, hz, hf⟩ := Option.bind_eq_some_iff.mp hf
    obtain ⟨w2, hw2, rfl⟩ := Option.map_eq_some_iff.mp hf
    obtain ⟨a3, hc, hg3⟩ := val_some hz
    refine ⟨G0, ρ, _, a3, I3, hc, fun z2 H4 I4 => ?_⟩
    obtain ⟨G4, F14, F24, J4⟩ := I4
    obtain ⟨Fz, rz⟩ := J4.top hg3
    obtain ⟨Fy', ry'⟩ := J4.next hg2
    refine hg' G4 H4 v zz y z2 Fy' Fz w2 J4.ex ry' rz hw2 _ fun z5 H5 G5 F5 gr5 rv5 => ?_
    obtain ⟨Fa, _, Ja⟩ := J4.drop
    obtain ⟨Fb, _, Jb⟩ := Ja.drop
    obtain ⟨Fc, _, Jc⟩ := Jb.drop
    exact q z5 H5 (Jc.push gr5 rv5).SI
theorem e_chain {op op' : CmpOp} {r r' : R2} {g g' : W → W → Option W} (ho : OpR X (compareOp op) r) (hg : Op2 X.K r g) (ho' : OpR X (compareOp op') r') (hg' : Op2 X.K r' g') (ha : OkE X a A) (hb : OkE X b B) (hc : OkE X c C)
    (hm : lastMarks [op, op'] [b, c] = false := by with_unfolding_all rfl) : OkE X (.Compare a [op, op'] [b, c] pos) (pChain g g' A B C) := PE.imp (pe_chain ho ho' ha hb hc hm) (chain_imp hg hg')
theorem t_chain {op op' : CmpOp} {r r' : R2} {g g' : W → W → Option W} (ho : OpR X (compareOp op) r) (hg : Op2 X.K r g) (ho' : OpR X (compareOp op') r') (hg' : Op2 X.K r' g') (ha : OkE X a A) (hb : OkE X b B) (hc : OkE X c C)
    (hm : lastMarks [op, op'] [b, c] = false := by with_unfolding_all rfl) : OkT X (.Compare a [op, op'] [b, c] pos) (bVal (pChain g g' A B C)) := PT.imp (pt_chain ho ho' ha hb hc hm) (bVal_imp (chain_imp hg hg'))
end
end Pv
set_option Elab.async false
set_option linter.all false
set_option maxRecDepth 100000
/-! P6: statements -/
namespace Pv
open PySem PySem.Spec PyProof.Rows L2
inductive Fl where
  | nx | bk | ct | rt (w : W)
abbrev Fs := Env → Option (Fl × Env)
theorem PS.imp {X : Cx} {st : Stmt} {t t' : TS} (h : PS X st t) (i : ∀ D σ H, t' D σ H → t D σ H) : PS X st t' := ⟨fun pins s σ H D I q => h.run pins s σ H D I (i D σ H q)⟩
theorem PSs.imp {X : Cx} {st : List Stmt} {t t' : TS} (h : PSs X st t) (i : ∀ D σ H, t' D σ H → t D σ H) : PSs X st t' := ⟨fun pins s σ H D I q => h.run pins s σ H D I (i D σ H q)⟩
theorem PG.imp {X : Cx} {e : Expr} {t t' : TG} (h : PG X e t) (i : ∀ v σ H Q, t' v σ H Q → t v σ H Q) : PG X e t' := ⟨fun pins s σ H v u Q I r q => h.run pins s σ H v u Q I r (i v σ H Q q)⟩
theorem PGs.imp {X : Cx} {e : List Expr} {t t' : TGs} (h : PGs X e t) (i : ∀ v σ H Q, t' v σ H Q → t v σ H Q) : PGs X e t' := ⟨fun pins s σ H v u Q I r q => h.run pins s σ H v u Q I r (i v σ H Q q)⟩
/-- a result: what G0 holds is as it was, the rest is new -/
def RetOk (K : PySem.W.Frag) (G0 : Hp) (w : W) (v : V) (H : Hp) : Prop := ∃ G F, Same G0 G ∧ Same G H ∧ RO K G H w.1 w.2 v F ∧ F.Nodup ∧ (∀ a ∈ F, G a = none) ∧ ∀ b o, H b = some o → ¬ isOwn o → G b = some o
def Post (K : PySem.W.Frag) (G0 : Hp) (D : Ends) : Fl → Env → Prop
  | .nx, ρ => ∀ σ H, SI K G0 σ ρ [] H → D.nx σ H
  | .bk, ρ => ∀ σ H, SI K G0 σ ρ [] H → D.bk σ H
  | .ct, ρ => ∀ σ H, SI K G0 σ ρ [] H → D.ct σ H
  | .rt w, _ => ∀ v H, RetOk K G0 w v H → D.rt v H
def tS (K : PySem.W.Frag) (f : Fs) : TS := fun D σ H => ∃ G0 ρ fl ρ', SI K G0 σ ρ [] H ∧ f ρ = some (fl, ρ') ∧ Post K G0 D fl ρ'
def OkS (X : Cx) (st : Stmt) (f : Fs) : Prop := PS X st (tS X.K f)
def OkB (X : Cx) (st : List Stmt) (f : Fs) : Prop := PSs X st (tS X.K f)
section
variable {X : Cx} {K : PySem.W.Frag} {G0 G G' H H' : Hp} {σ : L2.St} {ρ : Env} {ws : List (V × Arg)} {F1 F2 : List Addr} {e a b c : Expr} {es : List Expr} {pos : Pos} {A B C : Fe} {T : Fb} {st : Stmt} {rest : List Stmt} {f g : Fs}
theorem SI.base (I : SI K G σ ρ ws H) (e : Same G0 G) : SI K G0 σ ρ ws H := by
  obtain ⟨G1, F1, F2, I⟩ := I
  exact ⟨G1, F1, F2, e.trans I.ex0, I.ex, I.sl, I.wv, I.nd, I.fr, I.tu, I.ln⟩
theorem Si.up (I : Si K G0 σ ρ ws H G F1 F2) : Pv.SI K G σ ρ ws H := ⟨G, F1, F2, Same.refl _, I.ex, I.sl, I.wv, I.nd, I.fr, I.tu, I.ln⟩
theorem RetOk.base {w : W} {v : V} (e : Same G0 G) (r : RetOk K G w v H) : RetOk K G0 w v H := by
  obtain ⟨G1, F, h1, h⟩ := r
  exact ⟨G1, F, e.trans h1, h⟩
theorem Post.base {D : Ends} {fl : Fl} (e : Same G0 G) (h : Post K G0 D fl ρ) : Post K G D fl ρ := by
  cases fl with
  | nx => exact fun σ H I => h σ H (I.base e)
  | bk => exact fun σ H I => h σ H (I.base e)
  | ct => exact fun σ H I => h σ H (I.base e)
  | rt w => exact fun v H r => h v H (r.base e)
/-! ### blocks -/
def bSeq (f g : Fs) : Fs := fun ρ => (f ρ).bind fun p => match p.1 with
  | .nx => g p.2
  | fl => some (fl, p.2)
def bNil : Fs := fun ρ => some (.nx, ρ)
theorem b_nil : OkB X [] bNil := PSs.imp pss_nil fun D σ H ⟨G0, ρ, fl, ρ', I, hf, post⟩ => by
  cases hf
  exact post σ H I
theorem b_cons (h1 : OkS X st f) (h2 : OkB X rest g) : OkB X (st :: rest) (bSeq f g) := PSs.imp (pss_cons h1 h2) fun D σ H ⟨G0, ρ, fl, ρ', I, hf, post⟩ => by
  obtain ⟨⟨fl1, ρ1⟩, h1, hf⟩ := Option.bind_eq_some_iff.mp hf
  refine ⟨G0, ρ, fl1, ρ1, I, h1, ?_⟩
  cases fl1 with
  | nx => exact fun σ1 H1 I1 => ⟨G0, ρ1, fl, ρ', I1, hf, post⟩
  | bk => cases hf; exact post
  | ct => cases hf; exact post
  | rt w => cases hf; exact post
theorem b_one (h1 : OkS X st f) : OkB X [st] f := PSs.imp (pss_one h1) fun _ _ _ h => h
def sPass : Fs := fun ρ => some (.nx, ρ)
def sBreak : Fs := fun ρ => some (.bk, ρ)
def sCont : Fs := fun ρ => some (.ct, ρ)
theorem s_pass : OkS X (.Pass pos) sPass := PS.imp ps_pass fun D σ H ⟨G0, ρ, fl, ρ', I, hf, post⟩ => by cases hf; exact post σ H I
theorem s_break : OkS X (.Break pos) sBreak := PS.imp ps_break fun D σ H ⟨G0, ρ, fl, ρ', I, hf, post⟩ => by cases hf; exact post σ H I
theorem s_cont : OkS X (.Continue pos) sCont := PS.imp ps_continue fun D σ H ⟨G0, ρ, fl, ρ', I, hf, post⟩ => by cases hf; exact post σ H I
def sIf (T : Fb) (f g : Fs) : Fs := fun ρ => (T ρ).bind fun c => if c = true then f ρ else g ρ
theorem s_if {u v : List Stmt} (hc : OkT X c T) (ha : OkB X u f) (hb : OkB X v g) : OkS X (.If c u v pos) (sIf T f g) := PS.imp (ps_if hc ha hb) fun D σ H ⟨G0, ρ, fl, ρ', I, hf, post⟩ => by
  obtain ⟨k, hk, hf⟩ := Option.bind_eq_some_iff.mp hf
  refine ⟨G0, ρ, [], k, I, hk, fun H1 I1 => ?_⟩
  cases k with
  | true => rw [if_pos rfl] at hf ⊢; exact ⟨G0, ρ, fl, ρ', I1, hf, post⟩
  | false => rw [if_neg Bool.false_ne_true] at hf ⊢; exact ⟨G0, ρ, fl, ρ', I1, hf, post⟩
/-! ### stores -/
/-- no waiting value stands in a slot -/
def noRef : List (V × Arg) → Bool
  | [] => true
  | (_, .v _ _) :: ws => noRef ws
  | (_, .r _) :: _ => false
theorem RWs.any {σ' : L2.St} {ρ' : Env} : ∀ {ws : List (V × Arg)} {F : List Addr}, noRef ws = true → RWs K G H σ ρ ws F → RWs K G H σ' ρ' ws F
  | [], _, _, h => h
  | (x, .v k d) :: ws, F, n, ⟨F1, F2, h2, h3, h4⟩ => ⟨F1, F2, h2, h3, RWs.any n h4⟩
  | (x, .r i) :: ws, F, n, _ => by cases n
theorem Si.store {i : Nat} {x : V} {k : Nat} {d : D} (I : Si K G0 σ ρ ((x, .v k d) :: ws) H G F1 F2) (hi : i < ρ.length) (hr : noRef ws = true) : ∃ F1' F2', Si K G0 (σ.set i (some x)) (ρ.set i (some (k, d))) ws H G F1' F2' := by
  obtain ⟨Fx, Fy, h2, h3, h4⟩ := I.wv
  subst h2
  obtain ⟨Fa, Fi, Fb, e1, e2, e3, e4⟩ := RSl.zoom σ ρ F1 i I.sl hi (by rw [I.ln]; exact hi)
  subst e1
  have sl := e4 G H (some x) (some (k, d)) Fx (Same.refl _) (fun _ _ => rfl) (fun w e => by cases e; exact ⟨x, rfl, h3⟩) (fun e => by cases e)
  have nd := I.nd
  have fr := I.fr
  simp only [List.nodup_append, List.mem_append] at nd fr
  refine ⟨Fa ++ Fx ++ Fb, Fy, I.ex0, I.ex, sl, RWs.any hr h4, ?_, fun b hb => ?_, I.tu, by rw [List.length_set, List.length_set]; exact I.ln⟩
  · simp only [List.nodup_append, List.mem_append]
    obtain ⟨⟨⟨n1, n2, n3⟩, n4, n5⟩, ⟨n6, n7, n8⟩, n9⟩ := nd
    refine ⟨⟨⟨n1, n6, fun p hp q hq => n9 p (.inl (.inl hp)) q (.inl hq)⟩, n4, fun p hp q hq => ?_⟩, n7, fun p hp q hq => ?_⟩
    · rcases hp with hp | hp
      · exact n5 p (.inl hp) q hq
      · exact fun e => n9 q (.inr hq) p (.inl hp) e.symm
    · rcases hp with (hp | hp) | hp
      · exact n9 p (.inl (.inl hp)) q (.inr hq)
      · exact n8 p hp q hq
      · exact n9 p (.inr hp) q (.inr hq)
  · simp only [List.mem_append] at hb
    apply fr
    rcases hb with ((hb | hb) | hb) | hb
    · exact .inl (.inl (.inl hb))
    · exact .inr (.inl hb)
    · exact .inl (.inr hb)
    · exact .inr (.inr hb)
theorem SI.store {i : Nat} {x : V} {k : Nat} {d : D} (I : SI K G0 σ ρ ((x, .v k d) :: ws) H) (hi : i < ρ.length) (hr : noRef ws = true := by rfl) : SI K G0 (σ.set i (some x)) (ρ.set i (some (k, d))) ws H := by
  obtain ⟨G, F1, F2, I⟩ := I
  obtain ⟨F1', F2', J⟩ := I.store hi hr
  exact ⟨G, F1', F2', J⟩
def putArg (i : Nat) (a : Arg) (ρ : Env) : Option Env := match a with
  | .v k d => if i < ρ.length then some (ρ.set i (some (k, d))) else none
  | .r _ => none
def sAsg (i : Nat) (A : Fe) : Fs := fun ρ => (A ρ).bind fun a => (putArg i a ρ).map fun ρ' => (.nx, ρ')
theorem asg_imp {i : Nat} {D : Ends} (σ : L2.St) (H : Hp) (h : tS K (sAsg i A) D σ H) : tAsg (tE K A) (gName i) D σ H := by
  obtain ⟨G0, ρ, fl, ρ', I, hf, post⟩ := h
  obtain ⟨a, ha, hf⟩ := Option.bind_eq_some_iff.mp hf
  obtain ⟨ρ1, hp, hf⟩ := Option.map_eq_some_iff.mp hf
  cases hf
  cases a with
  | r j => cases hp
  | v k d =>
    unfold putArg at hp
    simp only at hp
    split at hp
    · rename_i hi
      cases hp
      exact ⟨G0, ρ, [], _, I, ha, fun v H1 I1 => post _ _ (I1.store hi)⟩
    · cases hp
theorem s_asg {i : Nat} {x : Str} {pos' : Pos} (hN : X.N.Nodup) (he : OkE X e A) (hi : X.N[i]? = some x := by rfl) (hx : Loc X.env.scope x := by first | exact Or.inl rfl | exact Or.inr rfl) (hs : swapsWith e (some (.Name x pos')) pos.line X.env = pure false := by rfl)
    (hf : X.fn x = true ∨ X.env.scope.names.lookup x = some .local := by first | exact .inl rfl | exact .inr rfl) : OkS X (.Assign [.Name x pos'] e pos) (sAsg i A) := PS.imp (ps_set hN hi hx he hs hf) fun D σ H h => asg_imp σ H h
/-! ### targets -/
inductive Tg where
  | nm (i : Nat)
  | tp (ts : List Tg)
mutual
def bindT : Tg → W → Env → Option Env
  | .nm i, w, ρ => if i < ρ.length then some (ρ.set i (some w)) else none
  | .tp ts, w, ρ => match w.2 with
    | .tup ds => if ds.length = ts.length then bindTs ts ds ρ else none
    | _ => none
def bindTs : List Tg → List D → Env → Option Env
  | [], _, ρ => some ρ
  | _ :: _, [], _ => none
  | t :: ts, d :: ds, ρ => (bindT t (0, d) ρ).bind fun ρ' => bindTs ts ds ρ'
end
mutual
def slotsT : Tg → List Nat
  | .nm i => [i]
  | .tp ts => slotsTs ts
def slotsTs : List Tg → List Nat
  | [] => []
  | t :: ts => slotsT t ++ slotsTs ts
end
/-- but for the slots S -/
def But (S : List Nat) (σ σ' : L2.St) : Prop := σ'.length = σ.length ∧ ∀ j, j ∉ S → σ'[j]? = σ[j]?
theorem But.trans {S S' : List Nat} {σ σ' σ'' : L2.St} (a : But S σ σ') (b : But S' σ' σ'') : But (S ++ S') σ σ'' := ⟨b.1.trans a.1, fun j hj => by
  simp only [List.mem_append, not_or] at hj
  rw [b.2 j hj.2, a.2 j hj.1]⟩
def tG (K : PySem.W.Frag) (t : Tg) : TG := fun v σ H Q => ∃ G0 ρ ws k d ρ', noRef ws = true ∧ SI K G0 σ ρ ((v, .v k d) :: ws) H ∧ bindT t (k, d) ρ = some ρ' ∧ ∀ σ', But (slotsT t) σ σ' → SI K G0 σ' ρ' ws H → Q σ' H
def tGs (K : PySem.W.Frag) (ts : List Tg) : TGs := fun vs σ H Q => ∃ G ρ ws ds ρ', noRef ws = true ∧ SI K G σ ρ ws H ∧ RepFs K G ds vs ∧ ds.length = ts.length ∧ bindTs ts ds ρ = some ρ' ∧ ∀ σ', But (slotsTs ts) σ σ' → SI K G σ' ρ' ws H → Q σ' H
def OkG (X : Cx) (e : Expr) (t : Tg) : Prop := PG X e (tG X.K t)
def OkGs (X : Cx) (e : List Expr) (t : List Tg) : Prop := PGs X e (tGs X.K t)
theorem g_name {i : Nat} {x : Str} (hN : X.N.Nodup) (hi : X.N[i]? = some x := by rfl) (hx : Loc X.env.scope x := by first | exact Or.inl rfl | exact Or.inr rfl) (hf : X.fn x = true ∨ X.env.scope.names.lookup x = some .local := by first | exact .inl rfl | exact .inr rfl) : OkG X (.Name x pos) (.nm i) :=
  PG.imp (pg_name hN hi hx hf) fun v σ H Q ⟨G0, ρ, ws, k, d, ρ', nr, I, hb, q⟩ => by
  unfold bindT at hb
  split at hb
  · rename_i hlt
    cases hb
    refine q _ ⟨List.length_set, fun j hj => ?_⟩ (I.store hlt nr)
    have : j ≠ i := by simpa [slotsT] using hj
    rw [List.getElem?_set_ne (Ne.symm this)]
  · cases hb
theorem gs_nil : OkGs X [] [] := PGs.imp pgs_nil fun vs σ H Q ⟨G, ρ, ws, ds, ρ', nr, I, r, hl, hb, q⟩ => by
  obtain rfl := List.eq_nil_of_length_eq_zero hl
  cases hb
  exact ⟨r, q σ ⟨rfl, fun _ _ => rfl⟩ I⟩
theorem gs_cons {t : Tg} {ts : List Tg} (h1 : OkG X e t) (h2 : OkGs X es ts) (hs : (assignEach (e :: es) X.env).map (·.2) = assign e X.env :: (assignEach es X.env).map (·.2) := by rfl) : OkGs X (e :: es) (t :: ts) :=
  PGs.imp (pgs_cons h1 h2 hs) fun vs σ H Q ⟨G, ρ, ws, ds, ρ', nr, I, r, hl, hb, q⟩ => by
  cases ds with
  | nil => simp at hl
  | cons d ds =>
    obtain ⟨x, xs, rfl, r1, r2⟩ := r
    obtain ⟨ρ1, hb1, hb2⟩ := Option.bind_eq_some_iff.mp hb
    refine ⟨x, xs, rfl, G, ρ, ws, 0, d, ρ1, nr, ?_, hb1, fun σ1 s1 I1 => ⟨G, ρ1, ws, ds, ρ', nr, I1, r2, by simpa using hl, hb2, fun σ2 s2 I2 => q σ2 (s1.trans s2) I2⟩⟩
    obtain ⟨G1, F1, F2, J⟩ := I
    exact (J.pushF (RepF.mono J.ex0 _ _ r1)).SI
theorem g_tup {k : Nat} {ts : List Tg} (hc : X.calm = true) (h : OkGs X es ts) (hn : (assignEach es X.env).length = ts.length := by rfl) (hst : (assignEach es X.env).findIdx? (·.1) = none := by rfl) : OkG X (.Tuple es k pos) (.tp ts) :=
  PG.imp (pg_tup hc h hn hst) fun v σ H Q ⟨G0, ρ, ws, k, d, ρ', nr, I, hb, q⟩ => by
  unfold bindT at hb
  cases d <;> first | (cases hb; done) | skip
  rename_i ds
  simp only at hb
  split at hb
  · rename_i hl
    obtain ⟨G, F1, F2, J⟩ := I
    obtain ⟨Fx, rx⟩ := J.top (a := .v k (.tup ds)) rfl
    obtain ⟨a, xs, rfl, h1, h2⟩ := rx.tup
    obtain ⟨F2', _, J'⟩ := J.drop
    exact ⟨a, xs, rfl, same_t J.ex h1, by rw [h2.len, hl], G, ρ, ws, ds, ρ', nr, J'.up, h2, hl, hb, fun σ' s I' => q σ' s (I'.base J.ex0)⟩
  · cases hb
/-- target = value -/
def sAsgT (t : Tg) (A : Fe) : Fs := fun ρ => (val A ρ).bind fun w => (bindT t (0, w.2) ρ).map fun ρ' => (.nx, ρ')
theorem s_asgT {tg : Expr} {t : Tg} (he : OkE X e A) (hg : OkG X tg t) (hs : swapsWithSole [tg] e pos.line X.env = pure false := by rfl) (hw : swappedStores [tg] e X.env = pure none := by rfl)
    (h1 : (assignEach [tg] X.env).map (·.2) = [assign tg X.env] := by rfl) (hb : ∀ (w : W) (ρ : Env), isBox w.2 = true → bindT t (0, w.2) ρ = none := by intro w ρ h; cases w with | mk k d => cases d <;> first | (cases h; done) | rfl) : OkS X (.Assign [tg] e pos) (sAsgT t A) :=
  PS.imp (ps_asg he hg hs hw h1) fun D σ H ⟨G0, ρ, fl, ρ', I, hf, post⟩ => by
  obtain ⟨w, hw, hf⟩ := Option.bind_eq_some_iff.mp hf
  obtain ⟨ρ1, hp, hf⟩ := Option.map_eq_some_iff.mp hf
  cases hf
  obtain ⟨a, ha, hg⟩ := val_some hw
  refine ⟨G0, ρ, [], a, I, ha, fun v H1 I1 => ?_⟩
  obtain ⟨G, F1, F2, J⟩ := I1
  obtain ⟨Fx, rx⟩ := J.top hg
  have nb : isBox w.2 = false := by
    cases q : isBox w.2 with
    | false => rfl
    | true => rw [hb w ρ q] at hp; cases hp
  obtain ⟨F2', _, J'⟩ := J.drop
  exact ⟨G0, ρ, [], 0, w.2, _, rfl, (J'.pushF (rx.plain nb).1).SI, hp, fun σ' _ I' => post σ' H1 I'⟩
/-! ### several names at once -/
def putAll : List Nat → List Arg → Env → Option Env
  | [], [], ρ => some ρ
  | i :: is, a :: as, ρ => (putArg i a ρ).bind fun ρ' => putAll is as ρ'
  | _, _, _ => none
def sPar (is : List Nat) (A : Fa) : Fs := fun ρ => (A ρ).bind fun as => (putAll is as ρ).map fun ρ' => (.nx, ρ')
theorem noRef_of : ∀ {is : List Nat} {as : List Arg} {ρ ρ' : Env} {vs : List V}, putAll is as ρ = some ρ' → noRef (vs.zip as) = true
  | [], [], _, _, vs, _ => by cases vs <;> rfl
  | i :: is, .v k d :: as, ρ, ρ', vs, h => by
    obtain ⟨ρ1, h1, h2⟩ := Option.bind_eq_some_iff.mp h
    cases vs with
    | nil => rfl
    | cons v vs => exact noRef_of (vs := vs) h2
  | i :: is, .r j :: as, ρ, ρ', vs, h => by cases h
  | [], _ :: _, _, _, _, h => by cases h
  | _ :: _, [], _, _, _, h => by cases h
def setAll : List Nat → List V → L2.St → L2.St
  | i :: is, v :: vs, σ => setAll is vs (σ.set i (some v))
  | _, _, σ => σ
theorem SI.storeAll : ∀ {is : List Nat} {as : List Arg} {vs : List V} {σ : L2.St} {ρ ρ' : Env}, vs.length = as.length → putAll is as ρ = some ρ' → SI K G0 σ ρ (vs.zip as) H → SI K G0 (setAll is vs σ) ρ' [] H
  | [], [], vs, σ, ρ, ρ', hl, h, I => by
    cases h
    obtain rfl := List.eq_nil_of_length_eq_zero hl
    exact I
  | i :: is, .v k d :: as, vs, σ, ρ, ρ', hl, h, I => by
    obtain ⟨ρ1, h1, h2⟩ := Option.bind_eq_some_iff.mp h
    cases vs with
    | nil => simp at hl
    | cons v vs =>
      unfold putArg at h1
      simp only at h1
      split at h1
      · rename_i hi
        cases h1
        exact SI.storeAll (is := is) (as := as) (vs := vs) (σ := σ.set i (some v)) (by simpa using hl) h2 (SI.store (ws := vs.zip as) I hi (noRef_of h2))
      · cases h1
  | i :: is, .r j :: as, vs, σ, ρ, ρ', hl, h, I => by cases h
  | [], _ :: _, _, _, _, _, _, h, _ => by cases h
  | _ :: _, [], _, _, _, _, _, h, _ => by cases h
theorem SI.perm {ws' : List (V × Arg)} (h : ws.Perm ws') (I : SI K G0 σ ρ ws H) : SI K G0 σ ρ ws' H := by
  obtain ⟨G, F1, F2, I⟩ := I
  obtain ⟨F3, J⟩ := Si.perm h I
  exact ⟨G, F1, F3, J⟩
theorem par_core {is : List Nat} {B : Fa} {D : Ends} (σ : L2.St) (H : Hp) (h : tS K (sPar is B) D σ H) : tA K B σ H fun vs H1 => vs.length = is.length ∧ ∀ p, (H1 p = none → D.nx (setAll is vs σ) (upd H1 p (.tup vs))) ∧ D.nx (setAll is vs σ) H1 := by
  obtain ⟨G0, ρ, fl, ρ', I, hf, post⟩ := h
  obtain ⟨as, ha, hf⟩ := Option.bind_eq_some_iff.mp hf
  obtain ⟨ρ1, hp, hf⟩ := Option.map_eq_some_iff.mp hf
  cases hf
  refine ⟨G0, ρ, [], as, I, ha, fun vs H1 hl I1 => ?_⟩
  have len : ∀ (is : List Nat) (as : List Arg) (ρ ρ' : Env), putAll is as ρ = some ρ' → as.length = is.length := by
    intro is
    induction is with
    | nil => intro as ρ ρ' h; cases as with
      | nil => rfl
      | cons a as => cases h
    | cons i is ih => intro as ρ ρ' h; cases as with
      | nil => cases h
      | cons a as =>
        obtain ⟨ρ1, h1, h2⟩ := Option.bind_eq_some_iff.mp h
        rw [List.length_cons, List.length_cons, ih as ρ1 ρ' h2]
  rw [List.append_nil] at I1
  have I2 := I1.perm (List.reverse_perm _)
  refine ⟨by rw [hl, len _ _ _ _ hp], fun p => ⟨fun hn => ?_, post _ _ (SI.storeAll hl hp I2)⟩⟩
  obtain ⟨G, F1, F2, J⟩ := I2
  have g := Grow.newF (o := .tup vs) J.ex hn
  exact post _ _ (SI.storeAll hl hp (J.grow g).SI)
theorem s_par2 {i j : Nat} {x y : Str} {B : Fa} {px py pt : Pos} {kt k2 pt2} (hc : X.calm = true) (hN : X.N.Nodup) (ha : OkA X [a, b] B) (hi : X.N[i]? = some x := by rfl) (hj : X.N[j]? = some y := by rfl) (hij : i ≠ j := by decide)
    (hx : X.env.scope.names.lookup x = some .local := by rfl) (hy : X.env.scope.names.lookup y = some .local := by rfl)
    (hw : swappedStores [.Tuple [.Name x px, .Name y py] kt pt] (.Tuple [a, b] k2 pt2) X.env = pure (some [x, y]) := by rfl)
    (hs : swapsWithSole [.Tuple [.Name x px, .Name y py] kt pt] (.Tuple [a, b] k2 pt2) pos.line X.env = pure false := by rfl) :
    OkS X (.Assign [.Tuple [.Name x px, .Name y py] kt pt] (.Tuple [a, b] k2 pt2) pos) (sPar [i, j] B) := PS.imp (ps_par hc hN hi hj hij hx hy ha hw hs) fun D σ H h => by
  obtain ⟨G0, ρ, ws, as, I, hA, q⟩ := par_core σ H h
  refine ⟨G0, ρ, ws, as, I, hA, fun vs H1 hl I1 => ?_⟩
  obtain ⟨hn, q⟩ := q vs H1 hl I1
  match vs, hn, q with
  | [v, w], _, q => exact ⟨v, w, rfl, (q 0).2⟩
/-- the names all at once, by way of the tuple -/
def OkNs (X : Cx) : List Expr → List Nat → Prop
  | [], [] => True
  | e :: es, i :: is => PG X e (gName i) ∧ (assignEach (e :: es) X.env).map (·.2) = assign e X.env :: (assignEach es X.env).map (·.2) ∧ OkNs X es is
  | _, _ => False
def gNames : List Nat → TGs
  | [] => gNil
  | i :: is => gCons (gName i) (gNames is)
theorem pgs_names : ∀ {es : List Expr} {is : List Nat}, OkNs X es is → PGs X es (gNames is)
  | [], [], _ => pgs_nil
  | e :: es, i :: is, h => pgs_cons h.1 (pgs_names h.2.2) h.2.1
  | [], _ :: _, h => h.elim
  | _ :: _, [], h => h.elim
theorem gNames_of : ∀ {is : List Nat} {vs : List V} {σ : L2.St} {H : Hp} {Q : L2.St → Hp → Prop}, vs.length = is.length → Q (setAll is vs σ) H → gNames is vs σ H Q
  | [], vs, σ, H, Q, hl, h => by
    obtain rfl := List.eq_nil_of_length_eq_zero hl
    exact ⟨rfl, h⟩
  | i :: is, [], σ, H, Q, hl, h => by simp at hl
  | i :: is, v :: vs, σ, H, Q, hl, h => ⟨v, vs, rfl, gNames_of (by simpa using hl) h⟩
theorem s_parN {is : List Nat} {ts : List Expr} {B : Fa} {kt k2 : _} {pt pt2 : Pos} (hc : X.calm = true) (ha : OkA X es B) (hg : OkNs X ts is) (hz : is.length ≤ 1000 := by decide) (hs : swapsWithSole [.Tuple ts kt pt] (.Tuple es k2 pt2) pos.line X.env = pure false := by rfl)
    (hw : swappedStores [.Tuple ts kt pt] (.Tuple es k2 pt2) X.env = pure none := by rfl) (h1 : (assignEach [.Tuple ts kt pt] X.env).map (·.2) = [assign (.Tuple ts kt pt) X.env] := by rfl)
    (hn : (assignEach ts X.env).length = is.length := by rfl) (hst : (assignEach ts X.env).findIdx? (·.1) = none := by rfl) : OkS X (.Assign [.Tuple ts kt pt] (.Tuple es k2 pt2) pos) (sPar is B) :=
  PS.imp (ps_asg (pe_tup ha) (pg_tup hc (pgs_names hg) hn hst) hs hw h1) fun D σ H h => by
  obtain ⟨G0, ρ, ws, as, I, hA, q⟩ := par_core σ H h
  refine ⟨G0, ρ, ws, as, I, hA, fun vs H1 hl I1 => ?_⟩
  obtain ⟨hn, q⟩ := q vs H1 hl I1
  refine ⟨by rw [hn]; exact Nat.le_trans hz (by decide), fun p hp => ?_⟩
  exact ⟨p, vs, rfl, .inl (.inl upd_same), hn, gNames_of hn ((q p).1 hp)⟩
/-! ### name op= e -/
def sAug (i : Nat) (g : W → W → Option W) (A : Fe) : Fs := fun ρ => ((ρ[i]?).join).bind fun u => (val A ρ).bind fun v => (g u v).bind fun w => if i < ρ.length then some (.nx, ρ.set i (some w)) else none
theorem s_aug {i : Nat} {x : Str} {op : Operator} {r : R2} {gg : W → W → Option W} {pos' : Pos} (hN : X.N.Nodup) (ho : PIp X op r) (hg : Op2 X.K r gg) (he : OkE X e A) (hi : X.N[i]? = some x := by rfl) (hx : Loc X.env.scope x := by first | exact Or.inl rfl | exact Or.inr rfl)
    (hf : X.fn x = true ∨ X.env.scope.names.lookup x = some .local := by first | exact .inl rfl | exact .inr rfl) : OkS X (.AugAssign (.Name x pos') op e pos) (sAug i gg A) := PS.imp (ps_aug hN hi hx he ho hf) fun D σ H ⟨G0, ρ, fl, ρ', I, hf, post⟩ => by
  obtain ⟨u, hu, hf⟩ := Option.bind_eq_some_iff.mp hf
  obtain ⟨v, hv, hf⟩ := Option.bind_eq_some_iff.mp hf
  obtain ⟨w, hw, hf⟩ := Option.bind_eq_some_iff.mp hf
  split at hf
  · rename_i hi
    cases hf
    obtain ⟨a, ha, hga⟩ := val_some hv
    have hs : ∃ x, σ[i]? = some (some x) := by
      obtain ⟨G, F1, F2, J⟩ := I
      obtain ⟨v, Fi, h1, _, _⟩ := J.sl.at (join_some hu)
      exact ⟨v, h1⟩
    obtain ⟨x, hx⟩ := hs
    refine ⟨x, hx, G0, ρ, [], a, I, ha, fun y H1 I1 => ?_⟩
    obtain ⟨G, F1, F2, J⟩ := I1
    obtain ⟨Fy, ry⟩ := J.top hga
    obtain ⟨x', Fi, h1, rx, _⟩ := J.sl.at (join_some hu)
    rw [hx] at h1
    cases h1
    refine hg G H1 u v x y Fi Fy w J.ex rx ry hw _ fun z H' G' F' gr rv => ?_
    obtain ⟨F2', _, J'⟩ := J.drop
    obtain ⟨F1', F2'', J2⟩ := (J'.push gr rv).store hi rfl
    exact post _ _ J2.SI
  · cases hf
/-! ### return -/
def sRet (A : Fe) : Fs := fun ρ => (A ρ).bind fun a => (a.get ρ).map fun w => (.rt w, ρ)
theorem s_ret (he : OkE X e A) : OkS X (.Return (some e) pos) (sRet A) := PS.imp (ps_ret he) fun D σ H ⟨G0, ρ, fl, ρ', I, hf, post⟩ => by
  obtain ⟨a, ha, hf⟩ := Option.bind_eq_some_iff.mp hf
  obtain ⟨w, hw, hf⟩ := Option.map_eq_some_iff.mp hf
  cases hf
  refine ⟨G0, ρ, [], a, I, ha, fun v H1 I1 => post v H1 ?_⟩
  obtain ⟨G, F1, F2, J⟩ := I1
  cases a with
  | v k d =>
    cases hw
    obtain ⟨Fa, Fb, h2, h3, h4⟩ := J.wv
    subst h2
    have nd := J.nd
    simp only [List.nodup_append] at nd
    exact ⟨G, Fa, J.ex0, J.ex, h3, nd.2.1.1, fun b hb => J.fr b (by simp [hb]), J.tu⟩
  | r i =>
    obtain ⟨h1, ⟨w', h2⟩, h3⟩ := J.wv
    have hw' : ρ[i]? = some (some w) := join_some hw
    have hi : i < ρ.length := (List.getElem?_eq_some_iff.mp hw').1
    obtain ⟨Fa, Fi, Fb, e1, e2, e3, e4⟩ := RSl.zoom σ ρ F1 i J.sl hi (by rw [J.ln]; exact hi)
    obtain ⟨v', q1, q2⟩ := e2 w hw'
    rw [h1] at q1
    cases q1
    subst e1
    have nd := J.nd
    simp only [List.nodup_append] at nd
    exact ⟨G, Fi, J.ex0, J.ex, q2, nd.1.1.2.1, fun b hb => J.fr b (by simp [hb]), J.tu⟩
def sRetN : Fs := fun ρ => some (.rt (0, .non), ρ)
theorem s_retN : OkS X (.Return none pos) sRetN := PS.imp ps_retN fun D σ H ⟨G0, ρ, fl, ρ', I, hf, post⟩ => by
  cases hf
  obtain ⟨G, F1, F2, J⟩ := I
  exact post _ _ ⟨G, [], J.ex0, J.ex, ⟨rfl, rfl⟩, List.nodup_nil, (fun a h => by cases h), J.tu⟩
end
end Pv
set_option Elab.async false
set_option linter.all false
set_option maxRecDepth 100000
/-! P7: loops, comprehensions -/
namespace Pv
open PySem PySem.Spec PyProof.Rows L2
theorem PI.imp {X : Cx} {tg e : Expr} {t t' : TI} (h : PI X tg e t) (i : ∀ σ H R, t' σ H R → t σ H R) : PI X tg e t' := ⟨fun pins s σ H R I q => h.run pins s σ H R I (i σ H R q)⟩
/-- what an iterator gives, while P holds -/
structure Items (K : PySem.W.Frag) (J : It) (ds : List D) (P : Hp → Hp → Prop) : Prop where
  goes : ∀ i G H, i < ds.length → P G H → J.go i H
  stops : ∀ G H, P G H → J.stop ds.length H
  yields : ∀ i G H x H', i < ds.length → P G H → J.yld i H x H' → ∃ G' d, Grow G H G' H' [] ∧ ds[i]? = some d ∧ RepF K G' d x
abbrev Fit := Env → Option (List D)
/-- for a for: over what is frozen -/
def tI (K : PySem.W.Frag) (f : Fit) : TI := fun σ H R => ∃ G0 ρ ds, SI K G0 σ ρ [] H ∧ f ρ = some ds ∧ ∀ J H' G1, Same G0 G1 → SI K G1 σ ρ [] H' → Items K J ds (fun G H => Same G1 G ∧ Same G H) → R J H'
/-- for a comprehension -/
def tIc (K : PySem.W.Frag) (f : Fit) : TI := fun σ H R => ∃ G0 ρ ws ds, SI K G0 σ ρ ws H ∧ f ρ = some ds ∧ ∀ J H' G1, Same G0 G1 → SI K G1 σ ρ ws H' → Items K J ds (fun G H => ∃ ws' F1 F2, Si K G1 σ ρ ws' H G F1 F2) → R J H'
def OkI (X : Cx) (tg e : Expr) (f : Fit) : Prop := PI X tg e (tI X.K f)
def OkIc (X : Cx) (tg e : Expr) (f : Fit) : Prop := PI X tg e (tIc X.K f)
section
variable {X : Cx} {K : PySem.W.Frag} {G0 G G' H H' : Hp} {σ : L2.St} {ρ : Env} {ws : List (V × Arg)} {F1 F2 : List Addr} {e a b c tg : Expr} {es : List Expr} {pos : Pos} {A B C : Fe} {T : Fb} {st : Stmt} {rest body : List Stmt} {f g : Fs}
/-! ### for -/
def loopF (t : Tg) (f : Fs) : List D → Env → Option (Fl × Env)
  | [], ρ => some (.nx, ρ)
  | d :: ds, ρ => (bindT t (0, d) ρ).bind fun ρ1 => (f ρ1).bind fun p => match p.1 with
    | .nx => loopF t f ds p.2
    | .ct => loopF t f ds p.2
    | .bk => some (.nx, p.2)
    | .rt w => some (.rt w, p.2)
def sFor (it : Fit) (t : Tg) (f : Fs) : Fs := fun ρ => (it ρ).bind fun ds => loopF t f ds ρ
theorem s_for {iter : Expr} {it : Fit} {t : Tg} (hp : PassesOwn (model X.prog X.w) X.A X.env X.xe) (hc : X.calm = true) (hi : OkI X tg iter it) (hg : OkG X tg t) (hb : OkB X body f) (hs : ∀ x, foldedSetIterable iter X.env x = pure x := by exact fun _ => rfl) :
    OkS X (.For tg iter body [] pos) (sFor it t f) := PS.imp (ps_for hp hc hi hg hb hs) fun D σ H ⟨G0, ρ, fl, ρ', I, hf, post⟩ => by
  obtain ⟨ds, hds, hf⟩ := Option.bind_eq_some_iff.mp hf
  refine ⟨G0, ρ, ds, I, hds, fun J H1 G1 e01 I1 it => ?_⟩
  refine ⟨fun i m σ H => m = ds.length - i ∧ i ≤ ds.length ∧ ∃ ρi, SI X.K G1 σ ρi [] H ∧ loopF t f (ds.drop i) ρi = some (fl, ρ'), ⟨ds.length, by simp, Nat.zero_le _, ρ, I1, hf⟩, ?_⟩
  rintro i m σ2 H2 ⟨rfl, hi, ρi, Ii, hl⟩
  by_cases hlt : i < ds.length
  · obtain ⟨G, F1, F2, J2⟩ := Ii
    refine .inr ⟨it.goes i G H2 hlt ⟨J2.ex0, J2.ex⟩, ?_⟩
    rw [List.drop_eq_getElem_cons hlt] at hl
    obtain ⟨ρ1, hb1, hl⟩ := Option.bind_eq_some_iff.mp hl
    obtain ⟨⟨fl1, ρ2⟩, hb2, hl⟩ := Option.bind_eq_some_iff.mp hl
    refine ⟨fun σ H => ∃ ρi, SI X.K G1 σ ρi [] H ∧ loopF t f (ds.drop (i + 1)) ρi = some (fl, ρ'), fun σ' H' ⟨ρi, h1, h2⟩ => ⟨ds.length - (i + 1), by omega, rfl, hlt, ρi, h1, h2⟩, fun x H' y => ?_⟩
    obtain ⟨G', d, gr, hd, rd⟩ := it.yields i G H2 x H' hlt ⟨J2.ex0, J2.ex⟩ y
    have ed : d = ds[i] := by rw [List.getElem?_eq_getElem hlt] at hd; exact (Option.some.inj hd).symm
    subst ed
    have J3 := (J2.grow gr).pushF rd
    refine ⟨G1, ρi, [], 0, ds[i], ρ1, rfl, J3.SI, hb1, fun σ' _ I' => ⟨G1, ρ1, fl1, ρ2, I', hb2, ?_⟩⟩
    cases fl1 with
    | nx => exact fun σ H I => ⟨ρ2, I, hl⟩
    | ct => exact fun σ H I => ⟨ρ2, I, hl⟩
    | bk => cases hl; exact fun σ H I => post σ H (I.base e01)
    | rt w => cases hl; exact fun v H r => post v H (r.base e01)
  · have ei : i = ds.length := by omega
    subst ei
    rw [List.drop_length] at hl
    cases hl
    obtain ⟨G, F1, F2, J2⟩ := Ii
    exact .inl ⟨it.stops G H2 ⟨J2.ex0, J2.ex⟩, post σ2 H2 (J2.SI.base e01)⟩
/-! ### while -/
def loopW (T : Fb) (f : Fs) : Nat → Env → Option (Fl × Env)
  | 0, _ => none
  | n + 1, ρ => (T ρ).bind fun c => if c = true then (f ρ).bind fun p => match p.1 with
    | .nx => loopW T f n p.2
    | .ct => loopW T f n p.2
    | .bk => some (.nx, p.2)
    | .rt w => some (.rt w, p.2)
    else some (.nx, ρ)
def sWhile (n : Nat) (T : Fb) (f : Fs) : Fs := loopW T f n
theorem s_while {n : Nat} (hp : PassesOwn (model X.prog X.w) X.A X.env X.xe) (hc : OkT X c T) (hb : OkB X body f) : OkS X (.While c body [] pos) (sWhile n T f) := PS.imp (ps_while hp hc hb) fun D σ H ⟨G0, ρ, fl, ρ', I, hf, post⟩ => by
  refine ⟨fun m σ H => ∃ ρm, SI X.K G0 σ ρm [] H ∧ loopW T f m ρm = some (fl, ρ'), ⟨n, ρ, I, hf⟩, ?_⟩
  rintro m σ2 H2 ⟨ρm, Im, hl⟩
  cases m with
  | zero => cases hl
  | succ m =>
    obtain ⟨k, hk, hl⟩ := Option.bind_eq_some_iff.mp hl
    refine ⟨G0, ρm, [], k, Im, hk, fun H3 I3 => ?_⟩
    cases k with
    | false =>
      rw [if_neg Bool.false_ne_true] at hl ⊢
      cases hl
      exact post σ2 H3 I3
    | true =>
      rw [if_pos rfl] at hl ⊢
      obtain ⟨⟨fl1, ρ2⟩, hb2, hl⟩ := Option.bind_eq_some_iff.mp hl
      refine ⟨fun σ H => ∃ ρm, SI X.K G0 σ ρm [] H ∧ loopW T f m ρm = some (fl, ρ'), fun σ' H' h => ⟨m, Nat.lt_succ_self m, h⟩, G0, ρm, fl1, ρ2, I3, hb2, ?_⟩
      cases fl1 with
      | nx => exact fun σ H I => ⟨ρ2, I, hl⟩
      | ct => exact fun σ H I => ⟨ρ2, I, hl⟩
      | bk => cases hl; exact fun σ H I => post σ H I
      | rt w => cases hl; exact fun v H r => post v H r
/-! ### what is walked -/
theorem Items.listF {a : Addr} {ds : List D} {xs : List V} {G1 : Hp} (h : G1 a = some (.lst xs)) (r : RepFs K G1 ds xs) : Items K (Itl K a) ds (fun G H => Same G1 G ∧ Same G H) where
  goes := fun i G H hi ⟨e1, e2⟩ => ⟨xs, xs[i]'(by rw [r.len]; exact hi), SqL.of (e2 _ _ (e1 _ _ h)), by simp [r.len, hi]⟩
  stops := fun G H ⟨e1, e2⟩ => ⟨xs, SqL.of (e2 _ _ (e1 _ _ h)), by rw [r.len]; exact Nat.le_refl _⟩
  yields := fun i G H x H' hi ⟨e1, e2⟩ ⟨hy, hx⟩ => by
    subst hy
    obtain ⟨z, h1, h2⟩ := (RepFs.mono e1 _ _ r).get (List.getElem?_eq_getElem hi)
    have := hx xs (SqL.of (e2 _ _ (e1 _ _ h)))
    rw [h1] at this
    cases this
    exact ⟨G, ds[i], Grow.refl e2, List.getElem?_eq_getElem hi, h2⟩
theorem Items.tupF {a : Addr} {ds : List D} {xs : List V} {G1 : Hp} (h : SqT K G1 a xs) (r : RepFs K G1 ds xs) : Items K (Itt K a) ds (fun G H => Same G1 G ∧ Same G H) where
  goes := fun i G H hi ⟨e1, e2⟩ => ⟨xs, xs[i]'(by rw [r.len]; exact hi), same_t e2 (same_t e1 h), by simp [r.len, hi]⟩
  stops := fun G H ⟨e1, e2⟩ => ⟨xs, same_t e2 (same_t e1 h), by rw [r.len]; exact Nat.le_refl _⟩
  yields := fun i G H x H' hi ⟨e1, e2⟩ ⟨hy, hx⟩ => by
    subst hy
    obtain ⟨z, h1, h2⟩ := (RepFs.mono e1 _ _ r).get (List.getElem?_eq_getElem hi)
    have := hx xs (same_t e2 (same_t e1 h))
    rw [h1] at this
    cases this
    exact ⟨G, ds[i], Grow.refl e2, List.getElem?_eq_getElem hi, h2⟩
theorem Items.mono {J : It} {ds : List D} {P P' : Hp → Hp → Prop} (i : Items K J ds P) (h : ∀ G H, P' G H → P G H) : Items K J ds P' :=
  ⟨fun k G H hk p => i.goes k G H hk (h G H p), fun G H p => i.stops G H (h G H p), fun k G H x H' hk p y => i.yields k G H x H' hk (h G H p) y⟩
theorem Items.toC {J : It} {ds : List D} {G1 : Hp} (i : Items K J ds (fun G H => Same G1 G ∧ Same G H)) : Items K J ds (fun G H => ∃ ws' F1 F2, Si K G1 σ ρ ws' H G F1 F2) :=
  i.mono fun G H ⟨_, _, _, I⟩ => ⟨I.ex0, I.ex⟩
/-- a frozen list or tuple, or a new one -/
def iVal (A : Fe) : Fit := fun ρ => (A ρ).bind fun a => match a with
  | .v _ (.lst ds) => some ds
  | _ => none
def iValT (A : Fe) : Fit := fun ρ => (val A ρ).bind fun w => match w.2 with
  | .tup ds => some ds
  | .ktp ds => some ds
  | _ => none
theorem i_list (h : OkE X e A) : OkI X tg e (iVal A) := PI.imp (pi_list h) fun σ H R ⟨G0, ρ, ds, I, hf, q⟩ => by
  obtain ⟨a, ha, hf⟩ := Option.bind_eq_some_iff.mp hf
  split at hf
  · rename_i k ds'
    cases hf
    refine ⟨G0, ρ, [], _, I, ha, fun v H1 I1 => ?_⟩
    obtain ⟨G, F1, F2, J⟩ := I1
    obtain ⟨G1, F2', J1, e1, r1⟩ := J.freeze
    obtain ⟨p, xs, rfl, h1, h2⟩ := r1
    exact ⟨p, rfl, ⟨xs, SqL.of (J1.ex _ _ h1)⟩, q _ H1 G1 J1.ex0 J1.up (Items.listF h1 h2)⟩
  · cases hf
theorem tupK_rep {k : Nat} {d : D} {ds : List D} {v : V} {F : List Addr} (h : (match d with | .tup ds => some ds | .ktp ds => some ds | _ => none) = some ds) (r : RO K G H k d v F) : ∃ a xs, v = .ref a ∧ SqT K G a xs ∧ RepFs K G ds xs := by
  cases d <;> first | (cases h; done) | skip
  · cases h; exact r.tup
  · cases h; obtain ⟨a, xs, h1, h2, h3⟩ := r.ktp; exact ⟨a, xs, h1, h2.sq, h3⟩
theorem i_tup (h : OkE X e A) : OkI X tg e (iValT A) := PI.imp (pi_tup h) fun σ H R ⟨G0, ρ, ds, I, hf, q⟩ => by
  obtain ⟨w, hw, hf⟩ := Option.bind_eq_some_iff.mp hf
  obtain ⟨a, ha, hg⟩ := val_some hw
  refine ⟨G0, ρ, [], a, I, ha, fun v H1 I1 => ?_⟩
  obtain ⟨G, F1, F2, J⟩ := I1
  obtain ⟨Fx, rx⟩ := J.top hg
  obtain ⟨p, xs, rfl, h1, h2⟩ := tupK_rep hf rx
  obtain ⟨F2', _, J'⟩ := J.drop
  exact ⟨p, rfl, ⟨xs, same_t J.ex h1⟩, q _ H1 G J'.ex0 J'.up (Items.tupF h1 h2)⟩
def rngD (lo : Int) (n : Nat) : List D := (List.range n).map fun i => .int (lo + (i : Nat))
theorem Items.rng {lo : Int} {n : Nat} {G1 : Hp} : Items K (Itr lo n) (rngD lo n) (fun G H => Same G1 G ∧ Same G H) where
  goes := fun i G H hi _ => by
    have : (rngD lo n).length = n := by simp [rngD]
    rw [this] at hi; exact hi
  stops := fun G H _ => by
    have : (rngD lo n).length = n := by simp [rngD]
    rw [this]; exact Nat.le_refl n
  yields := fun i G H x H' hi ⟨e1, e2⟩ ⟨hy, hx⟩ => by
    have : (rngD lo n).length = n := by simp [rngD]
    rw [this] at hi
    subst hy hx
    exact ⟨G, .int (lo + (i : Nat)), Grow.refl e2, by simp [rngD, hi], rfl⟩
theorem val1 {f : Fe} {G0 : Hp} {ρ : Env} {Q : List V → Hp → Prop} {w : W} (I : SI K G0 σ ρ ws H) (hv : val f ρ = some w) (q : ∀ v H1 G F1 F2 Fx, Si K G0 σ ρ ws H1 G F1 F2 → RO K G H1 w.1 w.2 v Fx → Q [v] H1) : tA K (aCons f aNil) σ H Q := by
  obtain ⟨a, ha, hg⟩ := val_some hv
  refine ⟨G0, ρ, ws, [a], I, by simp [aCons, aNil, ha], fun vs H1 hl I1 => ?_⟩
  match vs, hl, I1 with
  | [v], _, I1 =>
    obtain ⟨G, F1, F2, J⟩ := I1
    obtain ⟨Fx, rx⟩ := Si.top (ws := ws) J hg
    obtain ⟨F2', _, J'⟩ := Si.drop (ws := ws) J
    exact q v H1 G F1 F2' Fx J' rx
theorem val2 {f g : Fe} {G0 : Hp} {ρ : Env} {Q : List V → Hp → Prop} {w u : W} (I : SI K G0 σ ρ ws H) (hv : val f ρ = some w) (hu : val g ρ = some u)
    (q : ∀ v y H1 G F1 F2 Fx Fy, Si K G0 σ ρ ws H1 G F1 F2 → RO K G H1 w.1 w.2 v Fx → RO K G H1 u.1 u.2 y Fy → Q [v, y] H1) : tA K (aCons f (aCons g aNil)) σ H Q := by
  obtain ⟨a, ha, hg⟩ := val_some hv
  obtain ⟨b, hb, hgb⟩ := val_some hu
  refine ⟨G0, ρ, ws, [a, b], I, by simp [aCons, aNil, ha, hb], fun vs H1 hl I1 => ?_⟩
  match vs, hl, I1 with
  | [v, y], _, I1 =>
    obtain ⟨G, F1, F2, J⟩ := I1
    obtain ⟨Fx, rx⟩ := Si.top (ws := (v, a) :: ws) J hgb
    obtain ⟨F2', _, J'⟩ := Si.drop (ws := (v, a) :: ws) J
    obtain ⟨Fy, ry⟩ := Si.top (ws := ws) J' hg
    obtain ⟨F3', _, J''⟩ := Si.drop (ws := ws) J'
    exact q v y H1 G F1 F3' Fy Fx J'' ry rx
/-- range(n), range(a, b) -/
def iRange1 (A : Fe) : Fit := fun ρ => (val A ρ).bind fun w => match w.2 with
  | .int n => if -1000000000 ≤ n ∧ n ≤ 1000000000 then some (rngD 0 n.toNat) else none
  | _ => none
theorem i_range1 {p : Pos} (hg : Gl X "range") (hm : X.mg "range" = none) (ha : OkE X a A) (hs : starEach [a] X.env = [(false, eval a X.env)] := by rfl) : OkI X tg (.Call (.Name "range" p) [a] [] pos) (iRange1 A) :=
  PI.imp (pi_range1 (ta := tA X.K (aCons A aNil)) hg hm (a_cons ha a_nil hs) hs) fun σ H R ⟨G0, ρ, ds, I, hf, q⟩ => by
  obtain ⟨w, hw, hf⟩ := Option.bind_eq_some_iff.mp hf
  obtain ⟨k, d⟩ := w
  cases d <;> first | (cases hf; done) | skip
  rename_i n
  simp only at hf
  split at hf
  · rename_i hn
    cases hf
    refine val1 I hw fun v H1 G F1 F2 Fx J rx => ?_
    obtain rfl := rx.int
    exact ⟨n, rfl, by omega, by omega, q _ H1 G J.ex0 J.up Items.rng⟩
  · cases hf
def iRange2 (A B : Fe) : Fit := fun ρ => (val A ρ).bind fun w => (val B ρ).bind fun u => match w.2, u.2 with
  | .int m, .int n => if (-1000000000 ≤ m ∧ m ≤ 1000000000) ∧ -1000000000 ≤ n ∧ n ≤ 1000000000 then some (rngD m (n - m).toNat) else none
  | _, _ => none
theorem i_range2 {p : Pos} (hg : Gl X "range") (hm : X.mg "range" = none) (ha : OkE X a A) (hb : OkE X b B) (hs : starEach [a, b] X.env = [(false, eval a X.env), (false, eval b X.env)] := by rfl) (hs2 : starEach [b] X.env = [(false, eval b X.env)] := by rfl) :
    OkI X tg (.Call (.Name "range" p) [a, b] [] pos) (iRange2 A B) :=
  PI.imp (pi_range2 (ta := tA X.K (aCons A (aCons B aNil))) hg hm (a_cons ha (a_cons hb a_nil hs2) (by rw [hs, hs2])) hs hs2) fun σ H R ⟨G0, ρ, ds, I, hf, q⟩ => by
  obtain ⟨w, hw, hf⟩ := Option.bind_eq_some_iff.mp hf
  obtain ⟨u, hu, hf⟩ := Option.bind_eq_some_iff.mp hf
  obtain ⟨k, d⟩ := w
  obtain ⟨l, c⟩ := u
  cases d <;> first | (cases hf; done) | skip
  cases c <;> first | (cases hf; done) | skip
  simp only at hf
  split at hf
  · rename_i hn
    cases hf
    refine val2 I hw hu fun v y H1 G F1 F2 Fx Fy J rx ry => ?_
    obtain rfl := rx.int
    obtain rfl := ry.int
    exact ⟨_, _, rfl, ⟨by omega, by omega, by omega, by omega⟩, q _ H1 G J.ex0 J.up Items.rng⟩
  · cases hf
end
end Pv
set_option Elab.async false
set_option linter.all false
set_option maxRecDepth 100000
/-! P8: comprehensions -/
namespace Pv
open PySem PySem.Spec PyProof.Rows L2
section
variable {X : Cx} {K : PySem.W.Frag} {G0 G G1 G' G4 H H' H4 : Hp} {σ : L2.St} {ρ : Env} {ws : List (V × Arg)} {F1 F2 : List Addr} {e a b c tg : Expr} {es : List Expr} {pos : Pos} {A B C : Fe} {T : Fb} {st : Stmt} {rest body : List Stmt} {f g : Fs}
def plain0 (o : Option (Option W)) : Prop := ∀ w, o = some (some w) → w.1 = 0 ∨ isBox w.2 = false
theorem RO.plain0 {w : W} {v : V} {F : List Addr} (h : w.1 = 0 ∨ isBox w.2 = false) (r : RO K G H w.1 w.2 v F) : RepF K G w.2 v ∧ F = [] := by
  obtain ⟨k, d⟩ := w
  rcases h with h | h
  · simp only at h; subst h; exact r
  · exact r.plain h
theorem RO.of_plain {w : W} {v : V} (h : w.1 = 0 ∨ isBox w.2 = false) (r : RepF K G w.2 v) : RO K G H w.1 w.2 v [] := by
  obtain ⟨k, d⟩ := w
  rcases h with h | h
  · simp only at h; subst h; exact ⟨r, rfl⟩
  · cases k with
    | zero => exact ⟨r, rfl⟩
    | succ k => cases d <;> first | exact ⟨r, rfl⟩ | cases h
theorem RSl.merge (e : Same G G4) : ∀ (σ : L2.St) (ρ : Env) (σ2 : L2.St) (ρ2 : Env) (P : Nat → Prop) (F F2 : List Addr), RSl K G H σ ρ F → RSl K G4 H4 σ2 ρ2 F2 → σ.length = ρ.length → ρ2.length = ρ.length → σ2.length = σ.length →
    (∀ j, P j → Pv.plain0 ρ[j]? ∧ Pv.plain0 ρ2[j]?) → (∀ j, ¬ P j → ρ2[j]? = ρ[j]? ∧ σ2[j]? = σ[j]?) → RSl K G4 H4 σ ρ F2
  | [], [], σ2, ρ2, P, F, F2, h, h2, l1, l2, l3, _, _ => by
    obtain rfl := List.eq_nil_of_length_eq_zero (show ρ2.length = 0 from l2)
    obtain rfl := List.eq_nil_of_length_eq_zero (show σ2.length = 0 from l3)
    exact h2
  | [], _ :: _, _, _, _, _, _, _, _, l1, _, _, _, _ => by simp at l1
  | _ :: _, [], _, _, _, _, _, _, _, l1, _, _, _, _ => by simp at l1
  | s :: σ, r :: ρ, [], _, _, _, _, _, _, _, _, l3, _, _ => by simp at l3
  | s :: σ, r :: ρ, _ :: _, [], _, _, _, _, _, _, l2, _, _, _ => by simp at l2
  | s :: σ, r :: ρ, s2 :: σ2, r2 :: ρ2, P, F, F2, h, h2, l1, l2, l3, p1, p2 => by
    have ih := RSl.merge e σ ρ σ2 ρ2 (fun j => P (j + 1))
    have l1' : σ.length = ρ.length := by simpa using l1
    have l2' : ρ2.length = ρ.length := by simpa using l2
    have l3' : σ2.length = σ.length := by simpa using l3
    have p1' : ∀ j, P (j + 1) → Pv.plain0 ρ[j]? ∧ Pv.plain0 ρ2[j]? := fun j h => by simpa using p1 (j + 1) h
    have p2' : ∀ j, ¬ P (j + 1) → ρ2[j]? = ρ[j]? ∧ σ2[j]? = σ[j]? := fun j h => by simpa using p2 (j + 1) h
    by_cases hP : P 0
    · obtain ⟨q1, q2⟩ := p1 0 hP
      -- the tail's footprint
      have tail2 : RSl K G4 H4 σ2 ρ2 F2 := by
        cases r2 with
        | none => exact h2
        | some w2 =>
          obtain ⟨v, Fa, Fb, e1, e2, e3, e4⟩ := h2
          have := (e3.plain0 (q2 w2 rfl)).2
          subst this
          rw [e2]; exact e4
      cases r with
      | none => exact ih F F2 h tail2 l1' l2' l3' p1' p2'
      | some w =>
        obtain ⟨v, Fa, Fb, e1, e2, e3, e4⟩ := h
        have pl := q1 w rfl
        exact ⟨v, [], F2, e1, rfl, RO.of_plain pl (RepF.mono e _ _ (e3.plain0 pl).1), ih Fb F2 e4 tail2 l1' l2' l3' p1' p2'⟩
    · obtain ⟨q1, q2⟩ := p2 0 hP
      have q1' : r2 = r := by simpa using q1
      have q2' : s2 = s := by simpa using q2
      subst q1' q2'
      cases r2 with
      | none => exact ih F F2 h h2 l1' l2' l3' p1' p2'
      | some w =>
        obtain ⟨v, Fa, Fb, e1, e2, e3, e4⟩ := h
        obtain ⟨v2, Fc, Fd, e5, e6, e7, e8⟩ := h2
        exact ⟨v2, Fc, Fd, e5, e6, e7, ih Fb Fd e4 e8 l1' l2' l3' p1' p2'⟩
/-- without what stands in slots -/
def strip : List (V × Arg) → List (V × Arg)
  | [] => []
  | (x, .v k d) :: ws => (x, .v k d) :: strip ws
  | (_, .r _) :: ws => strip ws
theorem noRef_strip : ∀ ws, noRef (strip ws) = true
  | [] => rfl
  | (x, .v k d) :: ws => noRef_strip ws
  | (_, .r _) :: ws => noRef_strip ws
theorem RWs.strip {σ2 : L2.St} {ρ2 : Env} : ∀ {ws : List (V × Arg)} {F : List Addr}, RWs K G H σ ρ ws F → RWs K G H σ2 ρ2 (strip ws) F
  | [], _, h => h
  | (x, .v k d) :: ws, F, ⟨F1, F2, h2, h3, h4⟩ => ⟨F1, F2, h2, h3, RWs.strip (ws := ws) h4⟩
  | (x, .r i) :: ws, F, ⟨h1, h2, h3⟩ => RWs.strip (ws := ws) h3
theorem RWs.unstrip {σ2 : L2.St} {ρ2 : Env} : ∀ {pre ws : List (V × Arg)} {F F0 : List Addr}, noRef pre = true → RWs K G H σ ρ ws F0 → RWs K G4 H4 σ2 ρ2 (pre ++ Pv.strip ws) F → RWs K G4 H4 σ ρ (pre ++ ws) F
  | (x, .v k d) :: pre, ws, F, F0, n, h, ⟨F1, F2, h2, h3, h4⟩ => ⟨F1, F2, h2, h3, RWs.unstrip (pre := pre) n h h4⟩
  | (x, .r i) :: pre, ws, F, F0, n, h, _ => by cases n
  | [], [], F, F0, _, _, h => h
  | [], (x, .v k d) :: ws, F, F0, _, ⟨_, _, _, _, h⟩, ⟨F1, F2, h2, h3, h4⟩ => ⟨F1, F2, h2, h3, RWs.unstrip (pre := []) rfl h h4⟩
  | [], (x, .r i) :: ws, F, F0, _, ⟨g1, g2, h⟩, h4 => ⟨g1, g2, RWs.unstrip (pre := []) rfl h h4⟩
def wipeE (ρ : Env) : List Nat → Env
  | [] => ρ
  | v :: vs => (wipeE ρ vs).set v none
theorem wipeE_len (ρ : Env) : ∀ vs, (wipeE ρ vs).length = ρ.length
  | [] => rfl
  | v :: vs => by show ((wipeE ρ vs).set v none).length = _; rw [List.length_set, wipeE_len ρ vs]
theorem wipeE_out {ρ : Env} {j : Nat} : ∀ {vs : List Nat}, j ∉ vs → (wipeE ρ vs)[j]? = ρ[j]?
  | [], _ => rfl
  | v :: vs, h => by
    simp only [List.mem_cons, not_or] at h
    show ((wipeE ρ vs).set v none)[j]? = _
    rw [List.getElem?_set_ne (Ne.symm h.1), wipeE_out h.2]
theorem wipeE_in {ρ : Env} {j : Nat} : ∀ {vs : List Nat}, j ∈ vs → plain0 (wipeE ρ vs)[j]?
  | [], h => by cases h
  | v :: vs, h => fun w e => by
    by_cases hv : v = j
    · subst hv
      have e' : ((wipeE ρ vs).set v none)[v]? = some (some w) := e
      rw [List.getElem?_set] at e'
      simp at e'
    · have hj : j ∈ vs := by
        rcases List.mem_cons.mp h with q | q
        · exact absurd q.symm hv
        · exact q
      have e' : ((wipeE ρ vs).set v none)[j]? = some (some w) := e
      rw [List.getElem?_set_ne hv] at e'
      exact wipeE_in hj w e'
theorem wipe_out {σ : L2.St} {j : Nat} : ∀ {vs : List Nat}, j ∉ vs → (wipe σ vs)[j]? = σ[j]?
  | [], _ => rfl
  | v :: vs, h => by
    simp only [List.mem_cons, not_or] at h
    show ((wipe σ vs).set v none)[j]? = _
    rw [List.getElem?_set_ne (Ne.symm h.1), wipe_out h.2]
theorem wipe_in {σ : L2.St} {j : Nat} : ∀ {vs : List Nat}, j ∈ vs → j < σ.length → (wipe σ vs)[j]? = some none
  | [], h, _ => by cases h
  | v :: vs, h, hl => by
    show ((wipe σ vs).set v none)[j]? = _
    by_cases hv : v = j
    · subst hv
      rw [List.getElem?_set_self (by rw [wipe_length]; exact hl)]
    · rw [List.getElem?_set_ne hv]
      rcases List.mem_cons.mp h with q | q
      · exact absurd q.symm hv
      · exact wipe_in q hl
theorem wipe_but {σ σ' : L2.St} {S vs : List Nat} (h : But S (wipe σ vs) σ') (hs : ∀ i ∈ S, i ∈ vs) : wipe σ' vs = wipe σ vs := by
  have hl : σ'.length = σ.length := by rw [h.1, wipe_length]
  refine List.ext_getElem? fun j => ?_
  by_cases hj : j ∈ vs
  · by_cases hlt : j < σ.length
    · rw [wipe_in hj hlt, wipe_in hj (by rw [hl]; exact hlt)]
    · rw [List.getElem?_eq_none (by rw [wipe_length]; omega), List.getElem?_eq_none (by rw [wipe_length]; omega)]
  · rw [wipe_out hj, h.2 j (fun z => hj (hs j z)), wipe_out hj]
theorem RSl.wiped {vs : List Nat} : ∀ (σ : L2.St) (ρ : Env) (F : List Addr), RSl K G H σ ρ F → σ.length = ρ.length → (∀ j ∈ vs, plain0 ρ[j]?) → RSl K G H (wipe σ vs) (wipeE ρ vs) F := by
  intro σ ρ F h hl hp
  -- one slot
  have one : ∀ (σ : L2.St) (ρ : Env) (F : List Addr) (i : Nat), RSl K G H σ ρ F → σ.length = ρ.length → plain0 ρ[i]? → RSl K G H (σ.set i none) (ρ.set i none) F := by
    intro σ ρ F i h hl hp
    by_cases hi : i < ρ.length
    · obtain ⟨Fa, Fi, Fb, e1, e2, e2', e3⟩ := RSl.zoom σ ρ F i h hi (by rw [hl]; exact hi)
      have hF : Fi = [] := by
        cases q : ρ[i]'hi with
        | none => exact e2' (by rw [List.getElem?_eq_getElem hi, q])
        | some w =>
          have q' : ρ[i]? = some (some w) := by rw [List.getElem?_eq_getElem hi, q]
          obtain ⟨v, _, r⟩ := e2 w q'
          exact (r.plain0 (hp w q')).2
      subst hF
      have := e3 G H none none [] (Same.refl _) (fun _ _ => rfl) (fun w e => by cases e) (fun _ => rfl)
      rw [e1]; exact this
    · rw [List.set_eq_of_length_le (by omega), List.set_eq_of_length_le (by omega)]; exact h
  have all : ∀ us : List Nat, (∀ j ∈ us, j ∈ vs) → RSl K G H (wipe σ us) (wipeE ρ us) F := by
    intro us
    induction us with
    | nil => intro _; exact h
    | cons u us ih =>
      intro hu
      refine one _ _ F u (ih fun j hj => hu j (List.mem_cons_of_mem _ hj)) (by rw [wipe_length, wipeE_len]; exact hl) ?_
      by_cases q : u ∈ us
      · exact wipeE_in q
      · rw [wipeE_out q]; exact hp u (hu u List.mem_cons_self)
  exact all vs fun _ h => h
mutual
theorem bindT_but : ∀ (t : Tg) (w : W) (ρ ρ' : Env), bindT t w ρ = some ρ' → ρ'.length = ρ.length ∧ (∀ j : Nat, j ∉ slotsT t → ρ'[j]? = ρ[j]?) ∧ (w.1 = 0 → ∀ j : Nat, plain0 ρ[j]? → plain0 ρ'[j]?)
  | .nm i, w, ρ, ρ', h => by
    unfold bindT at h
    split at h
    · rename_i hi
      cases h
      refine ⟨List.length_set, fun j hj => ?_, fun hw j hp => ?_⟩
      · have : j ≠ i := by simpa [slotsT] using hj
        rw [List.getElem?_set_ne (Ne.symm this)]
      · by_cases hj : i = j
        · subst hj
          rw [List.getElem?_set_self hi]
          intro w' e
          cases e
          exact .inl hw
        · rw [List.getElem?_set_ne hj]; exact hp
    · cases h
  | .tp ts, w, ρ, ρ', h => by
    unfold bindT at h
    split at h
    · split at h
      · obtain ⟨h1, h2, h3⟩ := bindTs_but ts _ ρ ρ' h
        exact ⟨h1, h2, fun _ => h3⟩
      · cases h
    · cases h
theorem bindTs_but : ∀ (ts : List Tg) (ds : List D) (ρ ρ' : Env), bindTs ts ds ρ = some ρ' → ρ'.length = ρ.length ∧ (∀ j : Nat, j ∉ slotsTs ts → ρ'[j]? = ρ[j]?) ∧ (∀ j : Nat, plain0 ρ[j]? → plain0 ρ'[j]?)
  | [], ds, ρ, ρ', h => by
    have : ρ = ρ' := by simpa [bindTs] using h
    subst this
    exact ⟨rfl, fun _ _ => rfl, fun _ h => h⟩
  | t :: ts, [], ρ, ρ', h => by cases h
  | t :: ts, d :: ds, ρ, ρ', h => by
    obtain ⟨ρ1, h1, h2⟩ := Option.bind_eq_some_iff.mp h
    obtain ⟨a1, a2, a3⟩ := bindT_but t (0, d) ρ ρ1 h1
    obtain ⟨b1, b2, b3⟩ := bindTs_but ts ds ρ1 ρ' h2
    refine ⟨b1.trans a1, fun j hj => ?_, fun j hp => b3 j (a3 rfl j hp)⟩
    simp only [slotsTs, List.mem_append, not_or] at hj
    rw [b2 j hj.2, a2 j hj.1]
end
/-! ### list comprehensions -/
def lvlOk (j k : Nat) (d : D) : Bool := (j == 0) || (k == j) || !isBox d
def compL (t : Tg) (T : Fb) (A : Fe) (j : Nat) (ρ : Env) : List D → Option (List D)
  | [] => some []
  | d :: ds => (bindT t (0, d) ρ).bind fun ρ1 => (T ρ1).bind fun b => if b = true then (A ρ1).bind fun a => match a with
      | .v k x => if lvlOk j k x = true then (compL t T A j ρ ds).map fun r => x :: r else none
      | .r _ => none
    else compL t T A j ρ ds
def lvl0 (o : Option (Option W)) : Bool := match o with
  | some (some w) => (w.1 == 0) || !isBox w.2
  | _ => true
theorem lvl0_plain {o : Option (Option W)} (h : lvl0 o = true) : plain0 o := fun w e => by
  subst e
  simpa [lvl0] using h
def pLc (j : Nat) (it : Fit) (t : Tg) (vs : List Nat) (T : Fb) (A : Fe) : Fe := fun ρ => if (vs.all fun v => lvl0 ρ[v]?) = true then (it ρ).bind fun ds => if ds.length ≤ big then (compL t T A j (wipeE ρ vs) ds).map fun out => .v (j + 1) (.lst out) else none else none
def OkTs (X : Cx) (ifs : List Expr) (T : Fb) : Prop := PTs X ifs (tT X.K T)
def bYes : Fb := fun _ => some true
theorem PTs.imp {X : Cx} {e : List Expr} {t t' : TT} (h : PTs X e t) (i : ∀ σ H Q, t' σ H Q → t σ H Q) : PTs X e t' := ⟨fun pins s σ H Q I q => h.run pins s σ H Q I (i σ H Q q)⟩
theorem ts_nil : OkTs X [] bYes := PTs.imp pts_nil fun σ H Q ⟨G0, ρ, ws, b, I, hf, q⟩ => by cases hf; exact q H I
theorem ts_one (h : OkT X c T) : OkTs X [c] T := pts_one h
theorem compL_len {t : Tg} {T : Fb} {A : Fe} {j : Nat} {ρ : Env} : ∀ {ds out : List D}, compL t T A j ρ ds = some out → out.length ≤ ds.length
  | [], out, h => by cases h; exact Nat.le_refl _
  | d :: ds, out, h => by
    obtain ⟨ρ1, _, h⟩ := Option.bind_eq_some_iff.mp h
    obtain ⟨b, _, h⟩ := Option.bind_eq_some_iff.mp h
    split at h
    · obtain ⟨a, _, h⟩ := Option.bind_eq_some_iff.mp h
      split at h
      · split at h
        · obtain ⟨r, hr, rfl⟩ := Option.map_eq_some_iff.mp h
          exact Nat.succ_le_succ (compL_len hr)
        · cases h
      · cases h
    · exact Nat.le_succ_of_le (compL_len h)
/-- the item made waits ahead of the list made: it goes into it -/
theorem Si.addItem {D : Addr} {j k : Nat} {acc : List Pv.D} {x : Pv.D} {y : V} (ok : lvlOk j k x = true) (I : Si K G0 σ ρ ((y, .v k x) :: (.ref D, .v (j + 1) (.lst acc)) :: ws) H G F1 F2) :
    ∃ xs, H D = some (.lst xs) ∧ xs.length = acc.length ∧ Pv.SI K G0 σ ρ ((.ref D, .v (j + 1) (.lst (acc ++ [x]))) :: ws) (upd H D (.lst (xs ++ [y]))) := by
  -- what the item is, at the list's depth
  have key : ∃ G1 Fy F2', Same G G1 ∧ Same G1 H ∧ RO K G1 H j x y Fy ∧ (∀ b o, H b = some o → ¬ isOwn o → G1 b = some o) ∧ Same G0 G1 ∧ RSl K G1 H σ ρ F1 ∧ RWs K G1 H σ ρ ((.ref D, .v (j + 1) (.lst acc)) :: ws) F2' ∧ (F1 ++ (Fy ++ F2')).Nodup ∧ ∀ b ∈ F1 ++ (Fy ++ F2'), G1 b = none := by
    unfold lvlOk at ok
    by_cases h0 : j = 0
    · subst h0
      obtain ⟨G1, F2', J, e, r⟩ := I.freeze
      exact ⟨G1, [], F2', e, J.ex, ⟨r, rfl⟩, J.tu, J.ex0, J.sl, J.wv, J.nd, J.fr⟩
    · obtain ⟨Fy, F2', e2, r, wv⟩ := I.wv
      subst e2
      by_cases hk : k = j
      · subst hk
        exact ⟨G, Fy, F2', Same.refl _, I.ex, r, I.tu, I.ex0, I.sl, wv, I.nd, I.fr⟩
      · have nb : isBox x = false := by simpa [h0, hk] using ok
        obtain ⟨r1, hF⟩ := r.plain nb
        subst hF
        exact ⟨G, [], F2', Same.refl _, I.ex, RO.of_plain (w := (j, x)) (.inr nb) r1, I.tu, I.ex0, I.sl, wv, I.nd, I.fr⟩
  obtain ⟨G1, Fy, F2', e, ex, ry, tu, ex0, sl, wv, nd, fr⟩ := key
  obtain ⟨Fl, Fw, e2, ⟨D', xs, Fi, h1, h2, h3, h4⟩, hw⟩ := wv
  cases h1
  subst h3 e2
  refine ⟨xs, h2, h4.len, ?_⟩
  have nd' := nd
  simp only [List.nodup_append, List.mem_append, List.nodup_cons, List.mem_cons, List.cons_append] at nd'
  obtain ⟨n1, ⟨n2, ⟨n3, n4, n5, n6⟩, n7⟩, n8⟩ := nd'
  have ne : ∀ b, b ∈ F1 ∨ b ∈ Fy ∨ b ∈ Fi ∨ b ∈ Fw → (upd H D (.lst (xs ++ [y]))) b = H b := fun b hb => upd_ne fun z => by
    subst z
    rcases hb with hb | hb | hb | hb
    · exact n8 b hb b (.inr (.inl rfl)) rfl
    · exact n7 b hb b (.inl rfl) rfl
    · exact n3 (.inl hb)
    · exact n3 (.inr hb)
  have snoc : ∀ (ds : List Pv.D) (us : List V) (Fa : List Addr), ROs (RO K G1 H j) ds us Fa → ROs (RO K G1 H j) (ds ++ [x]) (us ++ [y]) (Fa ++ Fy) := by
    intro ds
    induction ds with
    | nil =>
      intro us Fa ⟨q1, q2⟩
      subst q1 q2
      exact ⟨y, [], Fy, [], rfl, by simp, ry, rfl, rfl⟩
    | cons d ds ih =>
      intro us Fa ⟨u, r, Fc, Fd, q1, q2, q3, q4⟩
      subst q1 q2
      exact ⟨u, r ++ [y], Fc, Fd ++ Fy, rfl, by simp [List.append_assoc], q3, ih r Fd q4⟩
  have hD1 : G1 D = none := fr D (by simp)
  refine ⟨G1, F1, (D :: (Fi ++ Fy)) ++ Fw, ex0, fun b o q => ?_, RSl.mono (Same.refl _) _ _ _ (fun b hb => ne b (.inl hb)) sl, ⟨D :: (Fi ++ Fy), Fw, rfl, ⟨D, xs ++ [y], Fi ++ Fy, rfl, upd_same, rfl, ?_⟩, RWs.mono (Same.refl _) _ _ (fun b hb => ne b (.inr (.inr (.inr hb)))) hw⟩, ?_, fun b hb => ?_, fun b o q1 q2 => ?_, I.ln⟩
  · rw [upd_ne (ne_of_none q hD1)]; exact ex b o q
  · exact ROs.imp _ _ _ (fun d v F sub r => RO.mono (Same.refl _) _ _ _ _ (fun b hb => ne b (by
      rcases List.mem_append.mp (sub b hb) with z | z
      · exact .inr (.inr (.inl z))
      · exact .inr (.inl z))) r) (snoc acc xs Fi h4)
  · simp only [List.nodup_append, List.nodup_cons, List.mem_append, List.mem_cons, List.cons_append]
    refine ⟨n1, ⟨fun z => ?_, ⟨n4, n2, fun p hp q hq e => ?_⟩, n5, fun p hp q hq e => ?_⟩, fun p hp q hq e => ?_⟩
    · rcases z with (z | z) | z
      · exact n3 (.inl z)
      · exact n7 D z D (.inl rfl) rfl
      · exact n3 (.inr z)
    · subst e; exact n7 p hq p (.inr (.inl hp)) rfl
    · subst e
      rcases hp with hp | hp
      · exact n6 p hp p hq rfl
      · exact n7 p hp p (.inr (.inr hq)) rfl
    · subst e
      rcases hq with hq | (hq | hq) | hq
      · exact n8 p hp p (.inr (.inl hq)) rfl
      · exact n8 p hp p (.inr (.inr (.inl hq))) rfl
      · exact n8 p hp p (.inl hq) rfl
      · exact n8 p hp p (.inr (.inr (.inr hq))) rfl
  · apply fr
    simp only [List.mem_append, List.mem_cons, List.cons_append] at hb ⊢
    rcases hb with hb | hb | (hb | hb) | hb
    · exact .inl hb
    · exact .inr (.inr (.inl hb))
    · exact .inr (.inr (.inr (.inl hb)))
    · exact .inr (.inl hb)
    · exact .inr (.inr (.inr (.inr hb)))
  · by_cases hb : b = D
    · subst hb; rw [upd_same] at q1; cases q1; exact absurd trivial q2
    · rw [upd_ne hb] at q1; exact tu b o q1 q2
/-- back from the block -/
theorem Si.unwipe {σ2 : L2.St} {ρ2 : Env} {vs : List Nat} {pre : List (V × Arg)} {F3 F4 : List Addr} (J : Si K G1 σ ρ ws H G F1 F2) (I : Si K G σ2 ρ2 (pre ++ strip ws) H4 G4 F3 F4) (np : noRef pre = true) (hl : ρ2.length = ρ.length) (hl2 : σ2.length = σ.length)
    (p1 : ∀ j ∈ vs, plain0 ρ[j]? ∧ plain0 ρ2[j]?) (p2 : ∀ j, j ∉ vs → ρ2[j]? = ρ[j]? ∧ σ2[j]? = σ[j]?) : Si K G1 σ ρ (pre ++ ws) H4 G4 F3 F4 :=
  ⟨J.ex0.trans I.ex0, I.ex, RSl.merge I.ex0 σ ρ σ2 ρ2 (fun j => j ∈ vs) F1 F3 J.sl I.sl J.ln hl hl2 p1 p2, RWs.unstrip np J.wv I.wv, I.nd, I.fr, I.tu, J.ln⟩
theorem lc_imp {j : Nat} {it : Fit} {t : Tg} {vs : List Nat} (hsub : ∀ i ∈ slotsT t, i ∈ vs) (σ : L2.St) (H : Hp) (Q : VK) (h : tE K (pLc j it t vs T A) σ H Q) : tLc (tIc K it) (tG K t) (tT K T) (tE K A) vs σ H Q := by
  obtain ⟨G0, ρ, ws, a, I, hf, q⟩ := h
  unfold pLc at hf
  split at hf
  · rename_i hv
    obtain ⟨ds, hds, hf⟩ := Option.bind_eq_some_iff.mp hf
    split at hf
    · rename_i hbig
      obtain ⟨out, ho, rfl⟩ := Option.map_eq_some_iff.mp hf
      have hv' : ∀ v ∈ vs, plain0 ρ[v]? := fun v hm => lvl0_plain (List.all_eq_true.mp hv v hm)
      refine ⟨G0, ρ, ws, ds, I, hds, fun J H1 G1 e01 I1 items Dl hD => ?_⟩
      refine ⟨fun i m H => m = ds.length - i ∧ i ≤ ds.length ∧ ∃ acc rest, SI K G1 σ ρ ((.ref Dl, .v (j + 1) (.lst acc)) :: ws) H ∧ compL t T A j (wipeE ρ vs) (ds.drop i) = some rest ∧ acc ++ rest = out ∧ acc.length ≤ i, ⟨ds.length, by simp, Nat.zero_le _, [], out, ?_, ho, rfl, Nat.le_refl _⟩, ?_⟩
      · obtain ⟨G, F1, F2, S⟩ := I1
        have g := Grow.newO (o := .lst []) S.ex hD trivial
        exact (S.push (k := j + 1) (d := .lst []) g ⟨Dl, [], [], rfl, upd_same, rfl, rfl, rfl⟩).SI
      · rintro i m H2 ⟨rfl, hi, acc, rest, I2, hc, hout, hacc⟩
        by_cases hlt : i < ds.length
        · obtain ⟨G, F1, F2, S⟩ := I2
          refine .inr ⟨items.goes i G H2 hlt ⟨_, _, _, S⟩, ?_⟩
          rw [List.drop_eq_getElem_cons hlt] at hc
          obtain ⟨ρ1, hb1, hc⟩ := Option.bind_eq_some_iff.mp hc
          obtain ⟨b, hT, hc⟩ := Option.bind_eq_some_iff.mp hc
          refine ⟨fun H => ∃ acc rest, SI K G1 σ ρ ((.ref Dl, .v (j + 1) (.lst acc)) :: ws) H ∧ compL t T A j (wipeE ρ vs) (ds.drop (i + 1)) = some rest ∧ acc ++ rest = out ∧ acc.length ≤ i + 1, fun H' ⟨acc, rest, h1, h2, h3, h4⟩ => ⟨ds.length - (i + 1), by omega, rfl, hlt, acc, rest, h1, h2, h3, h4⟩, fun x H' y => ?_⟩
          obtain ⟨G', d, gr, hd, rd⟩ := items.yields i G H2 x H' hlt ⟨_, _, _, S⟩ y
          have ed : d = ds[i] := by rw [List.getElem?_eq_getElem hlt] at hd; exact (Option.some.inj hd).symm
          subst ed
          have S3 := S.grow gr
          -- within the block
          have Sw : Si K G' (wipe σ vs) (wipeE ρ vs) ((.ref Dl, .v (j + 1) (.lst acc)) :: strip ws) H' G' F1 F2 :=
            ⟨Same.refl _, S3.ex, RSl.wiped σ ρ F1 S3.sl S3.ln hv', by exact RWs.strip (ws := (.ref Dl, .v (j + 1) (.lst acc)) :: ws) S3.wv, S3.nd, S3.fr, S3.tu, by rw [wipe_length, wipeE_len]; exact S3.ln⟩
          obtain ⟨b1, b2, b3⟩ := bindT_but t (0, ds[i]) _ ρ1 hb1
          have hl1 : ρ1.length = ρ.length := by rw [b1, wipeE_len]
          have p1 : ∀ k ∈ vs, plain0 ρ[k]? ∧ plain0 ρ1[k]? := fun k hk => ⟨hv' k hk, b3 rfl k (wipeE_in hk)⟩
          refine ⟨G', wipeE ρ vs, (.ref Dl, .v (j + 1) (.lst acc)) :: strip ws, 0, ds[i], ρ1, noRef_strip ws, (Sw.pushF rd).SI, hb1, fun σ' but I' => ⟨wipe_but but hsub, G', ρ1, _, b, I', hT, fun H3 I3 => ?_⟩⟩
          have hl2 : σ'.length = σ.length := by rw [but.1, wipe_length]
          have p2 : ∀ k, k ∉ vs → ρ1[k]? = ρ[k]? ∧ σ'[k]? = σ[k]? := fun k hk => ⟨by rw [b2 k (fun z => hk (hsub k z)), wipeE_out hk], by rw [but.2 k (fun z => hk (hsub k z)), wipe_out hk]⟩
          cases b with
          | false =>
            rw [if_neg Bool.false_ne_true] at hc
            refine iteF ?_
            obtain ⟨G5, F5, F6, S5⟩ := I3
            have S6 := Si.unwipe (pre := []) (ws := (.ref Dl, .v (j + 1) (.lst acc)) :: ws) S3 S5 rfl hl1 hl2 p1 p2
            exact ⟨acc, rest, S6.SI, hc, hout, Nat.le_succ_of_le hacc⟩
          | true =>
            rw [if_pos rfl] at hc
            refine iteT ?_
            obtain ⟨a, hA, hc⟩ := Option.bind_eq_some_iff.mp hc
            cases a with
            | r n => cases hc
            | v k xd =>
              simp only at hc
              split at hc
              · rename_i hlv
                obtain ⟨rest', hr', rfl⟩ := Option.map_eq_some_iff.mp hc
                refine ⟨G', ρ1, _, _, I3, hA, fun y4 H4 I4 => ?_⟩
                obtain ⟨G5, F5, F6, S5⟩ := I4
                have S6 := Si.unwipe (pre := [(y4, .v k xd)]) (ws := (.ref Dl, .v (j + 1) (.lst acc)) :: ws) S3 S5 rfl hl1 hl2 p1 p2
                obtain ⟨xs, hx1, hx2, hx3⟩ := Si.addItem hlv S6
                refine ⟨xs, hx1, ?_, acc ++ [xd], rest', hx3, hr', by rw [List.append_assoc]; exact hout, by rw [List.length_append]; exact Nat.succ_le_succ hacc⟩
                rw [hx2]
                exact big_lt (by omega)
              · cases hc
        · have ei : i = ds.length := by omega
          subst ei
          rw [List.drop_length] at hc
          cases hc
          rw [List.append_nil] at hout
          subst hout
          obtain ⟨G, F1, F2, S⟩ := I2
          exact .inl ⟨items.stops G H2 ⟨_, _, _, S⟩, q _ H2 (S.SI.base e01)⟩
    · cases hf
  · cases hf
theorem e_lc {j : Nat} {it : Fit} {t : Tg} {elt tg iter : Expr} {ifs : List Expr} {scope : Scope} {own : List (Str × Nat)} (hc : X.calm = true) (hN : X.N.Nodup) (hi : OkIc X tg iter it) (ok : BlkOk X.N X.env.scope scope own)
    (hg : ∀ (s : Shared) (H : Hp) (C : Addr) (cl : List (Str × Addr)) (fp : List Addr), OkG (X.blk s H scope (compEnvC scope cl C X.env) fp) tg t) (ht : ∀ (s : Shared) (H : Hp) (C : Addr) (cl : List (Str × Addr)) (fp : List Addr), OkTs (X.blk s H scope (compEnvC scope cl C X.env) fp) ifs T)
    (he : ∀ (s : Shared) (H : Hp) (C : Addr) (cl : List (Str × Addr)) (fp : List Addr), OkE (X.blk s H scope (compEnvC scope cl C X.env) fp) elt A) (hsub : ∀ i ∈ slotsT t, i ∈ own.map (·.2) := by decide) (hs : ∀ x, foldedSetIterable iter X.env x = pure x := by exact fun _ => rfl) :
    OkE X (.ListComp elt [⟨tg, iter, ifs, 0⟩] scope pos) (pLc j it t (own.map (·.2)) T A) := PE.imp (pe_lc (g := tG X.K t) (tt := tT X.K T) (te := tE X.K A) hc hN hi ok hg ht he hs) (lc_imp hsub)
/-- x = [..] on one line -/
theorem s_setLc {i j : Nat} {y : Str} {py : Pos} {it : Fit} {t : Tg} {elt tg iter : Expr} {ifs : List Expr} {scope : Scope} {own : List (Str × Nat)} {spos : Pos} (hc : X.calm = true) (hN : X.N.Nodup) (hsw : swapsWith (.ListComp elt [⟨tg, iter, ifs, 0⟩] scope pos) (some (.Name y py)) spos.line X.env = pure true)
    (hi : OkIc X tg iter it) (ok : BlkOk X.N X.env.scope scope own)
    (hg : ∀ (s : Shared) (H : Hp) (C : Addr) (cl : List (Str × Addr)) (fp : List Addr), OkG (X.blk s H scope (compEnvC scope cl C X.env) fp) tg t) (ht : ∀ (s : Shared) (H : Hp) (C : Addr) (cl : List (Str × Addr)) (fp : List Addr), OkTs (X.blk s H scope (compEnvC scope cl C X.env) fp) ifs T)
    (he : ∀ (s : Shared) (H : Hp) (C : Addr) (cl : List (Str × Addr)) (fp : List Addr), OkE (X.blk s H scope (compEnvC scope cl C X.env) fp) elt A) (hy : X.N[i]? = some y := by rfl) (hyl : X.env.scope.names.lookup y = some .local := by rfl) (hsub : ∀ i ∈ slotsT t, i ∈ own.map (·.2) := by decide) (hs : ∀ x, foldedSetIterable iter X.env x = pure x := by exact fun _ => rfl) :
    OkS X (.Assign [.Name y py] (.ListComp elt [⟨tg, iter, ifs, 0⟩] scope pos) spos) (sAsg i (pLc j it t (own.map (·.2)) T A)) := PS.imp (ps_setLc (g := tG X.K t) (tt := tT X.K T) (te := tE X.K A) hc hN hy hyl hsw hi ok hg ht he hs) fun D σ H h => lc_imp hsub σ H _ (asg_imp σ H h)
/-! ### what a comprehension walks -/
/-- a list, also one that a slot owns -/
def iLc (A : Fe) : Fit := fun ρ => (val A ρ).bind fun w => match w.2 with
  | .lst ds => if w.1 ≤ 1 then some ds else none
  | _ => none
end
end Pv
set_option Elab.async false
set_option linter.all false
set_option maxRecDepth 100000
/-! P9: sources of comprehensions, lists changed in place, own defs -/
namespace Pv
open PySem PySem.Spec PyProof.Rows L2
section
variable {X : Cx} {K : PySem.W.Frag} {G0 G G1 G' G4 H H' H4 : Hp} {σ : L2.St} {ρ : Env} {ws : List (V × Arg)} {F1 F2 : List Addr} {e a b c tg : Expr} {es : List Expr} {pos : Pos} {A B C : Fe} {T : Fb} {st : Stmt} {rest body : List Stmt} {f g : Fs}
/-! ### what a comprehension walks -/
theorem Items.listS {p : Addr} {ds : List D} {i : Nat} {k : Nat} (hk : k ≤ 1) (hρ : ρ[i]? = some (some (k, .lst ds))) (hσ : σ[i]? = some (some (.ref p))) : Items K (Itl K p) ds (fun G H => ∃ ws' F1 F2, Si K G1 σ ρ ws' H G F1 F2) := by
  have look : ∀ G H, (∃ ws' F1 F2, Si K G1 σ ρ ws' H G F1 F2) → Same G H ∧ ∃ xs, H p = some (.lst xs) ∧ RepFs K G ds xs := fun G H ⟨ws', F1, F2, I⟩ => by
    obtain ⟨v, Fi, h1, h2, _⟩ := I.sl.at hρ
    rw [hσ] at h1
    cases h1
    obtain ⟨a, xs, h3, h4, h5⟩ := RO.lst1 I.ex hk h2
    cases h3
    exact ⟨I.ex, xs, h4, h5⟩
  refine ⟨fun j G H hj P => ?_, fun G H P => ?_, fun j G H x H' hj P ⟨hy, hx⟩ => ?_⟩
  · obtain ⟨e, xs, h1, h2⟩ := look G H P
    exact ⟨xs, xs[j]'(by rw [h2.len]; exact hj), SqL.of h1, by simp [h2.len, hj]⟩
  · obtain ⟨e, xs, h1, h2⟩ := look G H P
    exact ⟨xs, SqL.of h1, by rw [h2.len]; exact Nat.le_refl _⟩
  · obtain ⟨e, xs, h1, h2⟩ := look G H P
    subst hy
    obtain ⟨z, h3, h4⟩ := h2.get (List.getElem?_eq_getElem hj)
    have := hx xs (SqL.of h1)
    rw [h3] at this
    cases this
    exact ⟨G, ds[j], Grow.refl e, List.getElem?_eq_getElem hj, h4⟩
theorem c_list (h : OkE X e A) : OkIc X tg e (iLc A) := PI.imp (pi_list h) fun σ H R ⟨G0, ρ, ws, ds, I, hf, q⟩ => by
  obtain ⟨w, hw, hf⟩ := Option.bind_eq_some_iff.mp hf
  obtain ⟨a, ha, hg⟩ := val_some hw
  obtain ⟨k, d⟩ := w
  cases d <;> first | (cases hf; done) | skip
  simp only at hf
  split at hf
  · rename_i hk
    cases hf
    refine ⟨G0, ρ, ws, a, I, ha, fun v H1 I1 => ?_⟩
    obtain ⟨G, F1, F2, J⟩ := I1
    cases a with
    | v k' d' =>
      cases hg
      obtain ⟨G1, F2', J1, e1, r1⟩ := J.freeze
      obtain ⟨p, xs, rfl, h1, h2⟩ := r1
      exact ⟨p, rfl, ⟨xs, SqL.of (J1.ex _ _ h1)⟩, q _ H1 G1 J1.ex0 J1.up (Items.listF h1 h2).toC⟩
    | r i =>
      have hρ : ρ[i]? = some (some (k, .lst ds)) := join_some hg
      obtain ⟨h1, _, _⟩ := J.wv
      obtain ⟨F2', _, J'⟩ := J.drop
      obtain ⟨v', Fi, q1, q2, _⟩ := J'.sl.at hρ
      rw [h1] at q1
      cases q1
      obtain ⟨p, xs, rfl, h3, h4⟩ := RO.lst1 J'.ex hk q2
      exact ⟨p, rfl, ⟨xs, SqL.of h3⟩, q _ H1 G0 (Same.refl _) J'.SI (Items.listS hk hρ h1)⟩
  · cases hf
theorem c_tup (h : OkE X e A) : OkIc X tg e (iValT A) := PI.imp (pi_tup h) fun σ H R ⟨G0, ρ, ws, ds, I, hf, q⟩ => by
  obtain ⟨w, hw, hf⟩ := Option.bind_eq_some_iff.mp hf
  obtain ⟨a, ha, hg⟩ := val_some hw
  refine ⟨G0, ρ, ws, a, I, ha, fun v H1 I1 => ?_⟩
  obtain ⟨G, F1, F2, J⟩ := I1
  obtain ⟨Fx, rx⟩ := J.top hg
  obtain ⟨p, xs, rfl, h1, h2⟩ := tupK_rep hf rx
  obtain ⟨F2', _, J'⟩ := J.drop
  exact ⟨p, rfl, ⟨xs, same_t J.ex h1⟩, q _ H1 G J'.ex0 J'.up (Items.tupF h1 h2).toC⟩
theorem c_range1 {p : Pos} (hg : Gl X "range") (hm : X.mg "range" = none) (ha : OkE X a A) (hs : starEach [a] X.env = [(false, eval a X.env)] := by rfl) : OkIc X tg (.Call (.Name "range" p) [a] [] pos) (iRange1 A) :=
  PI.imp (pi_range1 (ta := tA X.K (aCons A aNil)) hg hm (a_cons ha a_nil hs) hs) fun σ H R ⟨G0, ρ, ws, ds, I, hf, q⟩ => by
  obtain ⟨w, hw, hf⟩ := Option.bind_eq_some_iff.mp hf
  obtain ⟨k, d⟩ := w
  cases d <;> first | (cases hf; done) | skip
  rename_i n
  simp only at hf
  split at hf
  · rename_i hn
    cases hf
    refine val1 I hw fun v H1 G F1 F2 Fx J rx => ?_
    obtain rfl := rx.int
    exact ⟨n, rfl, by omega, by omega, q _ H1 G J.ex0 J.up Items.rng.toC⟩
  · cases hf
theorem c_range2 {p : Pos} (hg : Gl X "range") (hm : X.mg "range" = none) (ha : OkE X a A) (hb : OkE X b B) (hs : starEach [a, b] X.env = [(false, eval a X.env), (false, eval b X.env)] := by rfl) (hs2 : starEach [b] X.env = [(false, eval b X.env)] := by rfl) :
    OkIc X tg (.Call (.Name "range" p) [a, b] [] pos) (iRange2 A B) :=
  PI.imp (pi_range2 (ta := tA X.K (aCons A (aCons B aNil))) hg hm (a_cons ha (a_cons hb a_nil hs2) (by rw [hs, hs2])) hs hs2) fun σ H R ⟨G0, ρ, ws, ds, I, hf, q⟩ => by
  obtain ⟨w, hw, hf⟩ := Option.bind_eq_some_iff.mp hf
  obtain ⟨u, hu, hf⟩ := Option.bind_eq_some_iff.mp hf
  obtain ⟨k, d⟩ := w
  obtain ⟨l, c⟩ := u
  cases d <;> first | (cases hf; done) | skip
  cases c <;> first | (cases hf; done) | skip
  simp only at hf
  split at hf
  · rename_i hn
    cases hf
    refine val2 I hw hu fun v y H1 G F1 F2 Fx Fy J rx ry => ?_
    obtain rfl := rx.int
    obtain rfl := ry.int
    exact ⟨_, _, rfl, ⟨by omega, by omega, by omega, by omega⟩, q _ H1 G J.ex0 J.up Items.rng.toC⟩
  · cases hf
/-! ### a slot frozen -/
theorem Si.slot {i : Nat} {w : W} (I : Si K G0 σ ρ ws H G F1 F2) (h : ρ[i]? = some (some w)) : ∃ v Fa Fi Fb, F1 = Fa ++ Fi ++ Fb ∧ σ[i]? = some (some v) ∧ RO K G H w.1 w.2 v Fi ∧
    ∀ (G' H' : Hp) (w' : W) (Fi' : List Addr), Same G G' → (∀ b ∈ Fa ++ Fb, H' b = H b) → RO K G' H' w'.1 w'.2 v Fi' → RSl K G' H' σ (ρ.set i (some w')) (Fa ++ Fi' ++ Fb) := by
  have hi : i < ρ.length := (List.getElem?_eq_some_iff.mp h).1
  obtain ⟨Fa, Fi, Fb, e1, e2, _, e3⟩ := RSl.zoom σ ρ F1 i I.sl hi (by rw [I.ln]; exact hi)
  obtain ⟨v, h1, h2⟩ := e2 w h
  refine ⟨v, Fa, Fi, Fb, e1, h1, h2, fun G' H' w' Fi' g1 g2 g3 => ?_⟩
  have := e3 G' H' (some v) (some w') Fi' g1 g2 (fun w e => by cases e; exact ⟨v, rfl, g3⟩) (fun e => by cases e)
  have hs : σ.set i (some v) = σ := by
    obtain ⟨hlt, e⟩ := List.getElem?_eq_some_iff.mp h1
    rw [← e, List.set_getElem_self]
  rw [hs] at this
  exact this
theorem Si.frzSlot {i k : Nat} {d : D} (I : Si K G0 σ ρ [] H G F1 F2) (h : ρ[i]? = some (some (k, d))) : Pv.SI K G0 σ (ρ.set i (some (0, d))) [] H := by
  obtain ⟨v, Fa, Fi, Fb, e1, h1, h2, h3⟩ := I.slot h
  subst e1
  have e2 : F2 = [] := I.wv
  subst e2
  have nd := I.nd
  simp only [List.nodup_append, List.mem_append, List.append_nil] at nd
  have e := same_lay (G := G) (H := H) (F := Fi) (fun a ha => I.fr a (by simp [ha]))
  have hout : ∀ b, b ∈ Fa ∨ b ∈ Fb → b ∉ Fi := fun b hb z => by
    rcases hb with hb | hb
    · exact nd.1.2.2 b hb b z rfl
    · exact nd.2.2 b (.inr z) b hb rfl
  refine ⟨lay G H Fi, Fa ++ [] ++ Fb, [], I.ex0.trans e, lay_same I.ex, h3 _ _ (0, d) [] e (fun _ _ => rfl) ⟨RO.toF e _ _ _ Fi (fun a ha => lay_in ha) h2, rfl⟩, rfl, ?_, fun b hb => ?_, fun b o q1 q2 => e b o (I.tu b o q1 q2), by rw [List.length_set]; exact I.ln⟩
  · simp only [List.nodup_append, List.mem_append, List.append_nil]
    exact ⟨nd.1.1, nd.2.1, fun p hp q hq => nd.2.2 p (.inl hp) q hq⟩
  · simp only [List.mem_append, List.append_nil] at hb
    rw [lay_out (hout b hb)]
    refine I.fr b ?_
    rcases hb with hb | hb <;> simp [hb]
/-- slot i is frozen, then f -/
def bFrz (i : Nat) (f : Fs) : Fs := fun ρ => ((ρ[i]?).join).bind fun w => f (ρ.set i (some (0, w.2)))
theorem b_frz (i : Nat) {sts : List Stmt} (h : OkB X sts f) : OkB X sts (bFrz i f) := PSs.imp h fun D σ H ⟨G0, ρ, fl, ρ', I, hf, post⟩ => by
  obtain ⟨w, hw, hf⟩ := Option.bind_eq_some_iff.mp hf
  obtain ⟨G, F1, F2, J⟩ := I
  exact ⟨G0, _, fl, ρ', J.frzSlot (k := w.1) (d := w.2) (join_some hw), hf, post⟩
/-! ### lists changed in place -/
theorem SI.upd {i : Nat} {p : Addr} {o : HO} {w w' : W} {v : V} {pre : List (V × Arg)} {Fa F' F'' Fb : List Addr} (I : Si K G0 σ ρ pre H G (Fa ++ (p :: F') ++ Fb) F2) (ho : isOwn o)
    (hs : ∀ (G' H' : Hp) (w' : W) (Fi' : List Addr), Same G G' → (∀ b ∈ Fa ++ Fb, H' b = H b) → RO K G' H' w'.1 w'.2 v Fi' → RSl K G' H' σ (ρ.set i (some w')) (Fa ++ Fi' ++ Fb))
    (nd : F''.Nodup) (sub : ∀ b ∈ F'', b ∈ F' ∨ b ∈ F2) (r : RO K G (upd H p o) w'.1 w'.2 v (p :: F'')) : SI K G0 σ (ρ.set i (some w')) [] (upd H p o) := by
  have n := I.nd
  have fr := I.fr
  simp only [List.nodup_append, List.mem_append, List.nodup_cons, List.mem_cons, List.cons_append] at n fr
  obtain ⟨⟨⟨n1, ⟨n2, n3⟩, n4⟩, n5, n6⟩, n7, n8⟩ := n
  have hp : ∀ b, b ∈ Fa ∨ b ∈ Fb → b ≠ p := fun b hb z => by
    subst z
    rcases hb with hb | hb
    · exact n4 b hb b (.inl rfl) rfl
    · exact n6 b (.inr (.inl rfl)) b hb rfl
  have hG : G p = none := fr p (by simp)
  refine ⟨G, Fa ++ (p :: F'') ++ Fb, [], I.ex0, fun b u q => ?_, hs G _ w' (p :: F'') (Same.refl _) (fun b hb => upd_ne (hp b (by simpa using hb))) r, rfl, ?_, fun b hb => ?_, fun b u q1 q2 => ?_, by rw [List.length_set]; exact I.ln⟩
  · rw [upd_ne (ne_of_none q hG)]; exact I.ex b u q
  · simp only [List.nodup_append, List.mem_append, List.nodup_cons, List.mem_cons, List.cons_append, List.append_nil]
    refine ⟨⟨n1, ⟨fun z => ?_, nd⟩, fun x hx y hy e => ?_⟩, n5, fun x hx y hy e => ?_⟩
    · rcases sub p z with q | q
      · exact n2 q
      · exact n8 p (.inl (.inr (.inl rfl))) p q rfl
    · subst e
      rcases hy with hy | hy
      · exact n4 x hx x (.inl hy) rfl
      · rcases sub x hy with q | q
        · exact n4 x hx x (.inr q) rfl
        · exact n8 x (.inl (.inl hx)) x q rfl
    · subst e
      rcases hx with hx | hx | hx
      · exact n6 x (.inl hx) x hy rfl
      · exact n6 x (.inr (.inl hx)) x hy rfl
      · rcases sub x hx with q | q
        · exact n6 x (.inr (.inr q)) x hy rfl
        · exact n8 x (.inr hy) x q rfl
  · apply fr
    simp only [List.mem_append, List.mem_cons, List.append_nil, List.cons_append] at hb
    rcases hb with (hb | hb | hb) | hb
    · exact .inl (.inl (.inl hb))
    · exact .inl (.inl (.inr (.inl hb)))
    · rcases sub b hb with q | q
      · exact .inl (.inl (.inr (.inr q)))
      · exact .inr q
    · exact .inl (.inr hb)
  · by_cases hb : b = p
    · subst hb; rw [upd_same] at q1; cases q1; exact absurd ho q2
    · rw [upd_ne hb] at q1; exact I.tu b u q1 q2
theorem ROs.snoc {R : D → V → List Addr → Prop} {x : D} {y : V} {Fy : List Addr} (ry : R x y Fy) : ∀ {ds : List D} {us : List V} {Fa : List Addr}, ROs R ds us Fa → ROs R (ds ++ [x]) (us ++ [y]) (Fa ++ Fy)
  | [], _, _, ⟨q1, q2⟩ => by subst q1 q2; exact ⟨y, [], Fy, [], rfl, by simp, ry, rfl, rfl⟩
  | d :: ds, _, _, ⟨u, r, Fc, Fd, q1, q2, q3, q4⟩ => by subst q1 q2; exact ⟨u, r ++ [y], Fc, Fd ++ Fy, rfl, by simp [List.append_assoc], q3, ROs.snoc ry q4⟩
/-- x.append(e), x in slot i -/
def sApp (i : Nat) (A : Fe) : Fs := fun ρ => ((ρ[i]?).join).bind fun w => match w with
  | (k + 1, .lst ds) => (A ρ).bind fun a => match a with
    | .v j d => if lvlOk k j d = true ∧ ds.length < big then some (.nx, ρ.set i (some (k + 1, .lst (ds ++ [d])))) else none
    | .r _ => none
  | _ => none
theorem app_core {i k j : Nat} {ds : List D} {d : D} {y : V} (ok : lvlOk k j d = true) (I : SI K G0 σ ρ [(y, .v j d)] H) (h : ρ[i]? = some (some (k + 1, .lst ds))) :
    ∃ p xs, σ[i]? = some (some (.ref p)) ∧ H p = some (.lst xs) ∧ xs.length = ds.length ∧ SI K G0 σ (ρ.set i (some (k + 1, .lst (ds ++ [d])))) [] (upd H p (.lst (xs ++ [y]))) := by
  obtain ⟨G, F1, F2, I⟩ := I
  have key : ∃ G1 F2' pre Fy, Si K G0 σ ρ pre H G1 F1 F2' ∧ RO K G1 H k d y Fy ∧ Fy.Nodup ∧ ∀ b ∈ Fy, b ∈ F2' := by
    unfold lvlOk at ok
    by_cases h0 : k = 0
    · subst h0
      obtain ⟨G1, F2', J, e, r⟩ := I.freeze
      exact ⟨G1, F2', [], [], J, ⟨r, rfl⟩, List.nodup_nil, fun b hb => by cases hb⟩
    · have wv := I.wv
      obtain ⟨Fy, Fz, e2, r, rz⟩ := wv
      have rz : Fz = [] := rz
      subst rz e2
      have nd := I.nd
      simp only [List.nodup_append, List.append_nil] at nd
      by_cases hk : j = k
      · subst hk
        exact ⟨G, _, _, Fy, I, r, nd.2.1, fun b hb => by simpa using hb⟩
      · have nb : isBox d = false := by simpa [h0, hk] using ok
        obtain ⟨r1, hF⟩ := r.plain nb
        subst hF
        exact ⟨G, _, _, [], I, RO.of_plain (w := (k, d)) (.inr nb) r1, List.nodup_nil, fun b hb => by cases hb⟩
  obtain ⟨G1, F2', pre, Fy, J, ry, nd, sub⟩ := key
  obtain ⟨v, Fa, Fi, Fb, e1, h1, h2, h3⟩ := J.slot h
  obtain ⟨p, xs, F', rfl, h4, rfl, h5⟩ := h2
  subst e1
  have hn := J.nd
  simp only [List.nodup_append, List.mem_append, List.nodup_cons, List.mem_cons, List.cons_append] at hn
  have pF : p ∉ F' := hn.1.1.2.1.1
  have pY : p ∉ Fy := fun z => hn.2.2 p (.inl (.inr (.inl rfl))) p (sub p z) rfl
  refine ⟨p, xs, h1, h4, h5.len, SI.upd (w := (k + 1, .lst ds)) (F'' := F' ++ Fy) J trivial h3 ?_ (fun b hb => ?_) ⟨p, xs ++ [y], F' ++ Fy, rfl, upd_same, rfl, ?_⟩⟩
  · refine List.nodup_append.mpr ⟨hn.1.1.2.1.2, nd, fun x hx z hz e => ?_⟩
    subst e
    exact hn.2.2 x (.inl (.inr (.inr hx))) x (sub x hz) rfl
  · rcases List.mem_append.mp hb with q | q
    · exact .inl q
    · exact .inr (sub b q)
  · refine ROs.imp _ _ _ (fun d v F s r => RO.mono (Same.refl _) _ _ _ _ (fun b hb => upd_ne fun z => ?_) r) (ROs.snoc (R := RO K G1 H k) ry h5)
    subst z
    rcases List.mem_append.mp (s b hb) with q | q
    · exact pF q
    · exact pY q
theorem s_app {i : Nat} {x : Str} {p apos cpos : Pos} (he : OkE X e A) (hN : X.N[i]? = some x := by rfl) (hv : Vis X.env.scope x := by first | exact Or.inl rfl | exact Or.inr (Or.inl rfl) | exact Or.inr (Or.inr rfl)) (hd : (x == ("__debug__" : Str)) = false := by decide) (hcd : (x == ("__classdict__" : Str)) = false := by decide)
    (hfew : ((backTo cpos (starEach [e] X.env)).all (fun x => !x.1) && (backToKw cpos (keywordEach [] X.env)).all (fun x => x.1.isSome) && decide ([e].length + ([] : List Keyword).length + (if ([] : List Keyword).isEmpty then 0 else 1) < 30)) = true := by rfl)
    (hline : (apos.endLine == cpos.line) = true := by rfl) (hs : starEach [e] X.env = (false, eval e X.env) :: starEach [] X.env := by rfl) (hsw : swapsWith (.Call (.Attribute (.Name x p) "append" apos) [e] [] cpos) none pos.line X.env = pure false := by rfl) :
    OkS X (.Expr (.Call (.Attribute (.Name x p) "append" apos) [e] [] cpos) pos) (sApp i A) :=
  PS.imp (ps_expr (pe_bm PySem.F.plainAttrs_list PySem.F.slot_list_append PySem.F.type_list_append mt_append (pe_var hN hv hd hcd) (pa_cons he pa_nil hs) (by rfl) hfew hline hs (by rfl)) hsw) fun D σ H ⟨G0, ρ, fl, ρ', I, hf, post⟩ => by
  obtain ⟨w, hw, hf⟩ := Option.bind_eq_some_iff.mp hf
  split at hf
  · rename_i k ds
    obtain ⟨a, ha, hf⟩ := Option.bind_eq_some_iff.mp hf
    cases a with
    | r j => cases hf
    | v j d =>
      simp only at hf
      split at hf
      · rename_i ok
        cases hf
        have hρ := join_some hw
        have hx : ∃ p xs, σ[i]? = some (some (.ref p)) ∧ H p = some (.lst xs) := by
          obtain ⟨G, F1, F2, J⟩ := I
          obtain ⟨v, Fi, h1, h2, _⟩ := J.sl.at hρ
          obtain ⟨p, xs, rfl, h3, _⟩ := RO.lstN J.ex h2
          exact ⟨p, xs, h1, h3⟩
        obtain ⟨p, xs, h1, h2⟩ := hx
        refine ⟨.ref p, h1, .inl ⟨rfl, xs, SqL.of h2⟩, G0, ρ, [], _, I, ha, fun y H1 I1 => ?_⟩
        obtain ⟨p', xs', q1, q2, q3, q4⟩ := app_core ok.1 I1 hρ
        rw [h1] at q1
        cases q1
        exact ⟨p, xs', y, rfl, rfl, q2, by rw [q3]; exact big_lt ok.2, post _ _ q4⟩
      · cases hf
  · cases hf
/-- x[j] = e, x in slot i a list of frozen items -/
def setAt {α : Type} (xs : List α) (i : Int) (v : α) : Option (List α) := (ixN xs.length i).map fun j => xs.set j v
theorem RepFs.set {x : D} {y : V} (r : RepF K G x y) : ∀ {ds : List D} {xs : List V} (j : Nat), RepFs K G ds xs → RepFs K G (ds.set j x) (xs.set j y)
  | [], _, j, h => by rw [show _ = [] from h]; simp; exact (rfl : ([] : List V) = [])
  | d :: ds, _, 0, ⟨z, t, h1, h2, h3⟩ => by rw [h1]; exact ⟨y, t, rfl, r, h3⟩
  | d :: ds, _, j + 1, ⟨z, t, h1, h2, h3⟩ => by rw [h1]; exact ⟨z, t.set j y, rfl, h2, RepFs.set r j h3⟩
def sSet (i : Nat) (B : Fe) (A : Fe) : Fs := fun ρ => (A ρ).bind fun a => match a with
  | .v _ d => ((ρ[i]?).join).bind fun w => match w with
    | (1, .lst ds) => (val B ρ).bind fun u => match u.2 with
      | .int n => (setAt ds n d).map fun ds' => (.nx, ρ.set i (some (1, .lst ds')))
      | _ => none
    | _ => none
  | .r _ => none
theorem s_set {i : Nat} {x : Str} {p tpos : Pos} (he : OkE X e A) (hb : OkE X b B) (hN : X.N[i]? = some x := by rfl) (hv : Vis X.env.scope x := by first | exact Or.inl rfl | exact Or.inr (Or.inl rfl) | exact Or.inr (Or.inr rfl)) (hd : (x == ("__debug__" : Str)) = false := by decide) (hcd : (x == ("__classdict__" : Str)) = false := by decide)
    (ha : ∀ v, assign (.Subscript (.Name x p) b tpos) X.env v = (do
      let ov ← holding [v] (eval (.Name x p) X.env)
      let iv ← holding [v, ov] (eval b X.env)
      standAt tpos
      holding [v, ov, iv] (setItem ov iv v)
      release [v, ov, iv] []) := by exact fun _ => rfl)
    (hs : swapsWithSole [.Subscript (.Name x p) b tpos] e pos.line X.env = pure false := by rfl) (hw : swappedStores [.Subscript (.Name x p) b tpos] e X.env = pure none := by rfl) (h1 : (assignEach [.Subscript (.Name x p) b tpos] X.env).map (·.2) = [assign (.Subscript (.Name x p) b tpos) X.env] := by rfl) :
    OkS X (.Assign [.Subscript (.Name x p) b tpos] e pos) (sSet i B A) := PS.imp (ps_asg he (pg_sub (pe_var hN hv hd hcd) hb set_list ha) hs hw h1) fun D σ H ⟨G0, ρ, fl, ρ', I, hf, post⟩ => by
  obtain ⟨a, ha, hf⟩ := Option.bind_eq_some_iff.mp hf
  cases a with
  | r j => cases hf
  | v j d =>
    obtain ⟨w, hw, hf⟩ := Option.bind_eq_some_iff.mp hf
    split at hf
    · rename_i ds
      obtain ⟨u, hu, hf⟩ := Option.bind_eq_some_iff.mp hf
      obtain ⟨l, c⟩ := u
      cases c <;> first | (cases hf; done) | skip
      rename_i n
      obtain ⟨ds', hds, hf⟩ := Option.map_eq_some_iff.mp hf
      cases hf
      obtain ⟨m, hm, rfl⟩ := Option.map_eq_some_iff.mp hds
      obtain ⟨a2, ha2, hg2⟩ := val_some hu
      have hρ := join_some hw
      refine ⟨G0, ρ, [], _, I, ha, fun y H1 I1 => ?_⟩
      have hx : ∃ p, σ[i]? = some (some (.ref p)) := by
        obtain ⟨G, F1, F2, J⟩ := I1
        obtain ⟨v, Fi, h1, h2, _⟩ := J.sl.at hρ
        obtain ⟨p, xs, rfl, h3, _⟩ := RO.lstN J.ex h2
        exact ⟨p, h1⟩
      obtain ⟨p, hp⟩ := hx
      refine ⟨.ref p, hp, G0, ρ, [(y, .v j d)], a2, I1, ha2, fun z H2 I2 => ?_⟩
      obtain ⟨G, F1, F2, J⟩ := I2
      obtain ⟨Fz, rz⟩ := J.top hg2
      obtain rfl := RO.int rz
      obtain ⟨F3, _, J1⟩ := J.drop
      obtain ⟨G2, F4, J2, e2, r2⟩ := J1.freeze
      obtain ⟨v, Fa, Fi, Fb, e1, h1, h2, h3⟩ := J2.slot hρ
      rw [hp] at h1
      cases h1
      obtain ⟨p', xs, F', q0, h4, rfl, h5⟩ := h2
      cases q0
      subst e1
      obtain ⟨h6, h7⟩ := ROs.to_F h5
      subst h7
      refine ⟨p, xs, n, m, rfl, rfl, h4, by rw [h6.len]; exact hm, post _ _ ?_⟩
      exact SI.upd (w := (1, .lst ds)) (F'' := []) J2 trivial h3 List.nodup_nil (fun b hb => by cases hb) ⟨p, xs.set m y, [], rfl, upd_same, rfl, ROs.of_F (RepFs.set r2 m h6)⟩
    · cases hf
/-! ### own defs -/
mutual
def noBox : D → Bool
  | .tup ds => noBoxs ds
  | .lst _ => false
  | .dct _ _ => false
  | .scr _ => false
  | .ktp ds => noBoxs ds
  | .non => true
  | .bl _ => true
  | .int _ => true
  | .str _ => true
def noBoxs : List D → Bool
  | [] => true
  | d :: ds => noBox d && noBoxs ds
end
def cleanD : Nat → D → Bool
  | k + 1, .lst ds => ds.all (cleanD k)
  | k + 1, .dct _ kvs => kvs.all fun p => cleanD k p.2
  | _, d => noBox d
mutual
theorem RepF.move (h : ∀ b o, ¬ isOwn o → G b = some o → G1 b = some o) : ∀ (d : D) (v : V), noBox d = true → RepF K G d v → RepF K G1 d v
  | .non, _, _, r => r
  | .bl _, _, _, r => r
  | .int _, _, _, r => r
  | .str _, _, _, r => r
  | .tup ds, _, n, ⟨a, xs, h1, h2, h3⟩ => ⟨a, xs, h1, h a _ (fun z => z) h2, RepFs.move h ds xs n h3⟩
  | .ktp ds, _, n, ⟨a, xs, h1, h2, h3⟩ => ⟨a, xs, h1, h2.elim .inl fun ⟨od, q1, q2⟩ => .inr ⟨od, q1, h a _ (fun z => z) q2⟩, RepFs.move h ds xs n h3⟩
  | .lst _, _, n, _ => by cases n
  | .dct _ _, _, n, _ => by cases n
  | .scr _, _, n, _ => by cases n
theorem RepFs.move (h : ∀ b o, ¬ isOwn o → G b = some o → G1 b = some o) : ∀ (ds : List D) (xs : List V), noBoxs ds = true → RepFs K G ds xs → RepFs K G1 ds xs
  | [], _, _, r => r
  | d :: ds, _, n, ⟨x, r, h1, h2, h3⟩ => by
    have n' : noBox d = true ∧ noBoxs ds = true := by
      have : (noBox d && noBoxs ds) = true := n
      simpa using this
    exact ⟨x, r, h1, RepF.move h d x n'.1 h2, RepFs.move h ds r n'.2 h3⟩
end
theorem ROs.impA {R R' : D → V → List Addr → Prop} : ∀ (ds : List D) (xs : List V) (F : List Addr), (∀ d ∈ ds, ∀ v F1, R d v F1 → R' d v F1) → ROs R ds xs F → ROs R' ds xs F
  | [], _, _, _, h => h
  | d :: ds, _, _, f, ⟨x, r, F1, F2, h1, h2, h3, h4⟩ => ⟨x, r, F1, F2, h1, h2, f d List.mem_cons_self _ _ h3, ROs.impA ds r F2 (fun d' hd => f d' (List.mem_cons_of_mem _ hd)) h4⟩
theorem ROk.impA {R R' : D → V → List Addr → Prop} : ∀ (ds : List (List Key × D)) (xs : List (List Key × V)) (F : List Addr), (∀ p ∈ ds, ∀ v F1, R p.2 v F1 → R' p.2 v F1) → ROk R ds xs F → ROk R' ds xs F
  | [], _, _, _, h => h
  | (k, d) :: ds, _, _, f, ⟨x, r, F1, F2, h1, h2, h3, h4⟩ => ⟨x, r, F1, F2, h1, h2, f (k, d) List.mem_cons_self _ _ h3, ROk.impA ds r F2 (fun d' hd => f d' (List.mem_cons_of_mem _ hd)) h4⟩
theorem RO.move (h : ∀ b o, ¬ isOwn o → G b = some o → G1 b = some o) : ∀ (k : Nat) (d : D) (v : V) (F : List Addr), cleanD k d = true → RO K G H k d v F → RO K G1 H k d v F
  | 0, d, v, _, n, r => ⟨RepF.move h d v (by cases d <;> exact n) r.1, r.2⟩
  | k + 1, .lst ds, _, _, n, ⟨a, xs, F', h1, h2, h3, h4⟩ => ⟨a, xs, F', h1, h2, h3, ROs.impA ds xs F' (fun d hd v F1 r => RO.move h k d v F1 (List.all_eq_true.mp n d hd) r) h4⟩
  | k + 1, .dct t ds, _, _, n, ⟨a, xs, F', h1, h2, h5, h3, h4⟩ => ⟨a, xs, F', h1, h2, h5, h3, ROk.impA ds xs F' (fun p hp v F1 r => RO.move h k p.2 v F1 (List.all_eq_true.mp n p hp) r) h4⟩
  | k + 1, .non, _, _, _, r => r
  | k + 1, .bl _, _, _, _, r => r
  | k + 1, .int _, _, _, _, r => r
  | k + 1, .str _, _, _, _, r => r
  | k + 1, .tup ds, v, _, n, r => ⟨RepF.move h (.tup ds) v n r.1, r.2⟩
  | k + 1, .scr _, _, _, n, _ => by cases n
  | k + 1, .ktp ds, v, _, n, r => ⟨RepF.move h (.ktp ds) v n r.1, r.2⟩
/-- what a def promises: m of the data -/
def spD (K : PySem.W.Frag) (m : List D → Option W) : Sp := fun vs H Q _ => ∃ ds w, RepFs K H ds vs ∧ m ds = some w ∧ ∀ v H', RetOk K H w v H' → Q v H'
theorem ret_res {w : W} {t : VK → Prop} (e : Same G H) (tu : ∀ b o, H b = some o → ¬ isOwn o → G b = some o) (hc : cleanD w.1 w.2 = true) (h : ∀ Q : VK, (∀ v H', RetOk K H w v H' → Q v H') → t Q) : Res K G H w t := fun Q q => h Q fun v H' ⟨G', F, e1, e2, r, nd, fr, tu'⟩ => by
  refine q v H' (fun b => if (H b).isSome = true then G b else G' b) F ⟨fun b o h1 => ?_, fun b o h1 => ?_, e1.trans e2, fun b h1 h2 => ?_, nd, fun a ha => ?_, fun b o h1 h2 h3 => ?_⟩ ?_
  · have := e b o h1
    simp [this, h1]
  · split at h1
    · exact e2 b o (e1 b o (e b o h1))
    · exact e2 b o h1
  · have : (H b).isSome = true := by
      cases q : H b with
      | none => exact absurd q h2
      | some _ => rfl
    simp [this, h1]
  · have g := fr a ha
    have hn : H a = none := e1.free g
    exact ⟨hn, by simp [hn, g]⟩
  · simp [h1]
    exact tu' b o h2 h3
  · refine RO.move (fun b xs hn hq => ?_) _ _ _ _ hc r
    cases q : H b with
    | none => simp [q, hq]
    | some o' =>
      have := e1 b o' q
      rw [hq] at this
      cases this
      simp [q, tu b _ q hn]
theorem row_F (e : Same G H) : ∀ {us : List W} {xs : List V}, ROW K G H us xs → RepFs K H (us.map (·.2)) xs
  | [], _, h => h
  | u :: us, _, ⟨x, r, F, h1, h2, h3⟩ => ⟨x, r, h1, RO.toF e _ _ _ F (fun _ _ => rfl) h2, row_F e h3⟩
theorem RepFs.app {ds es : List D} {xs ys : List V} (h : RepFs K G ds xs) (q : RepFs K G es ys) : RepFs K G (ds ++ es) (xs ++ ys) := h.append q
/-- the call of an own def by its name: dd, dvs the defaults that fill up -/
def pFn (m : List D → Option W) (dd : List D) (A : Fa) : Fe := fun ρ => (A ρ).bind fun as => (getAll ρ as).bind fun us => (m (us.map (·.2) ++ dd)).map fun w => .v w.1 w.2
structure FnD (X : Cx) (k : Nat) (x : Str) (m : List D → Option W) (dd : List D) : Prop where
  ex : ∃ (f : Addr) (fd : FuncData) (ps : List Str) (dvs : List V) (dus : List Value), FnOk X.prog X.w X.K X.mg X.base CX0 k f fd ps (spD X.K m) ∧ X.mg x = some (.ref f) ∧ PySem.W.keepIn X.K (.ref f) = true ∧ Binds X.K fd ps dus ∧ Vals dvs dus ∧ ∀ H, RepFs X.K H dd dvs
  cl : ∀ ds w, m ds = some w → cleanD w.1 w.2 = true
theorem fn_imp {m : List D → Option W} {dd : List D} {dvs : List V} {B : Fa} (cl : ∀ ds w, m ds = some w → cleanD w.1 w.2 = true) (hd : ∀ H, RepFs K H dd dvs) (σ : L2.St) (H : Hp) (Q : VK) (h : tE K (pFn m dd B) σ H Q) : tCall (spD K m) dvs E0 (tA K B) σ H Q := by
  obtain ⟨G0, ρ, ws, a, I, hf, q⟩ := h
  obtain ⟨as, has, hf⟩ := Option.bind_eq_some_iff.mp hf
  obtain ⟨us, hus, hf⟩ := Option.bind_eq_some_iff.mp hf
  obtain ⟨w, hw, rfl⟩ := Option.map_eq_some_iff.mp hf
  refine ⟨G0, ρ, ws, as, I, has, fun vs H1 hl I1 => ?_⟩
  obtain ⟨G, F1, F2, J⟩ := I1
  have rr := row_F J.ex (J.rows hl hus)
  refine ret_res (t := fun Q => spD K m (vs ++ dvs) H1 Q E0) J.ex J.tu (cl _ _ hw) (fun Q q => ⟨_, w, rr.app (hd H1), hw, q⟩) Q fun v H' G' F' gr rv => ?_
  obtain ⟨F2', J'⟩ := Si.dropN _ J
  exact q v H' (J'.push gr rv).SI
theorem e_fn {k : Nat} {x : Str} {m : List D → Option W} {dd : List D} {B : Fa} {p : Pos} (F : FnD X k x m dd) (hr : Room k X.A) (hg : Gl X x) (ha : OkA X (e :: es) B) (hx : Passes CX0 X E0) (hdb : (x == ("__debug__" : Str)) = false := by decide)
    (he : starEach (e :: es) X.env = (false, eval e X.env) :: starEach es X.env := by rfl) (hpl : (backTo pos (starEach es X.env)).any (·.1) = false := by rfl) : OkE X (.Call (.Name x p) (e :: es) [] pos) (pFn m dd B) := by
  obtain ⟨f, fd, ps, dvs, dus, h1, h2, h3, h4, h5, h6⟩ := F.ex
  exact PE.imp (pe_call h1 hr hg h2 h3 h4 h5 hx ha hdb he hpl) (fn_imp F.cl h6)
end
section
variable {P : Program} {w : World} {K : PySem.W.Frag} {mg : Str → Option Value} {base : Heap}
def initE (n : Nat) (ds : List D) : Env := ds.map (fun d => some (0, d)) ++ List.replicate (n - ds.length) none
theorem RSl.nones {K : PySem.W.Frag} {G H : Hp} : ∀ (n : Nat) (σ : L2.St), RSl K G H σ (List.replicate n none) []
  | 0, σ => by cases σ <;> rfl
  | n + 1, [] => by rw [List.replicate_succ]; exact RSl.nones n []
  | n + 1, s :: σ => by rw [List.replicate_succ]; exact RSl.nones n σ
theorem RSl.init {K : PySem.W.Frag} {G H : Hp} {n : Nat} : ∀ {ds : List D} {vs : List V} {τ : L2.St}, RepFs K G ds vs → RSl K G H (vs.map some ++ τ) (ds.map (fun d => some (0, d)) ++ List.replicate n none) []
  | [], vs, τ, h => by rw [show vs = [] from h]; exact RSl.nones n τ
  | d :: ds, _, τ, ⟨x, r, h1, h2, h3⟩ => by subst h1; exact ⟨x, [], [], rfl, rfl, ⟨h2, rfl⟩, RSl.init h3⟩
theorem SI.init {N : List Str} {ds : List D} {vs : List V} {H : Hp} (r : RepFs K H ds vs) : SI K H (L2.start N vs) (initE N.length ds) [] H := by
  refine ⟨H, [], [], Same.refl _, Same.refl _, ?_, rfl, List.nodup_nil, (fun a ha => by cases ha), fun b o h _ => h, ?_⟩
  · exact RSl.init r
  · unfold L2.start initE
    simp [r.len]
/-- what a body gives -/
def retOf : Fl → Option W
  | .rt w => some w
  | .nx => some (0, .non)
  | _ => none
def runB (n : Nat) (f : Fs) (ds : List D) : Option W := (f (initE n ds)).bind fun p => retOf p.1
/-- THE RULE for a def: its body as data, what it is worth -/
theorem fnD {x qual : Str} {st : Stmt} {f : Addr} {fd : FuncData} {N ps : List Str} {k : Nat} {m : List D → Option W} {bd : Fs} (F : Fun K x qual st f fd) (S : FnScope N ps (defScope st)) (len : ∀ ds w, m ds = some w → ds.length = ps.length)
    (hb : ∀ (cdv : Value) (A : Around) (outer : List PySem.Env) (s : Shared) (H : Hp), Room k (A.deeper (envOfC qual (defScope st) s.heap.objs.size f cdv)) → OkB (cxOf CX0 P w K mg base N qual (defScope st) f cdv A outer s H E0).nox (defBody st) bd)
    (hm : ∀ ds w, m ds = some w → runB N.length bd ds = some w) : FnOk P w K mg base CX0 (k + 1) f fd ps (spD K m) := by
  refine F.ok S (fun vs H Q E h => ?_) (fun cdv A outer s H vs Q E hr h => ?_)
  · obtain ⟨ds, w, h1, h2, _⟩ := h
    rw [h1.len]; exact len ds w h2
  · obtain ⟨ds, w, h1, h2, q⟩ := h
    refine ⟨_, (hb cdv A outer s H hr : OkB _ _ _), ?_⟩
    have h3 := hm ds w h2
    unfold runB at h3
    obtain ⟨⟨fl, ρ'⟩, h4, h5⟩ := Option.bind_eq_some_iff.mp h3
    refine ⟨H, initE N.length ds, fl, ρ', SI.init h1, h4, ?_⟩
    cases fl with
    | rt w' => cases h5; exact fun v H' r => q v H' r
    | nx =>
      cases h5
      exact fun σ H' ⟨G, F1, F2, J⟩ => q _ H' ⟨G, [], J.ex0, J.ex, ⟨rfl, rfl⟩, List.nodup_nil, (fun a ha => by cases ha), J.tu⟩
    | bk => cases h5
    | ct => cases h5
end
end Pv
set_option Elab.async false
set_option linter.all false
set_option maxRecDepth 100000
/-! P10: enumerate and zip over lists and tuples in any mix -/
namespace Pv
open PySem PySem.Spec PyProof.Rows L2
/-- lists (true), tuples (false) -/
def Sq (K : PySem.W.Frag) (H : Hp) : Bool → Addr → List V → Prop
  | true, a, xs => SqL K H a xs
  | false, a, xs => SqT K H a xs
def IsI (h : Heap) : Bool → Addr → Addr → Nat → Prop
  | true, it, a, i => h.IsListIter it a i
  | false, it, a, i => h.IsTupleIter it a i
def IsQ (h : Heap) : Bool → Addr → Array Value → Prop
  | true, a, its => h.IsList a its
  | false, a, its => h.IsTuple a its
def iterO (b : Bool) (l : Addr) : Obj := { cls := .type (if b then "list_iterator" else "tuple_iterator"), data := .fields #[.ref l, .int 0 0] }
theorem IsI.obj {h : Heap} {b : Bool} {it a : Addr} {i : Nat} (e : IsI h b it a i) : ∃ o, h.get? it = some o ∧ ∀ v, o.data ≠ .cell v := by
  cases b
  · obtain ⟨o, ho, _, hd⟩ := e; exact ⟨o, ho, fun v q => by rw [hd] at q; cases q⟩
  · obtain ⟨o, ho, _, hd⟩ := e; exact ⟨o, ho, fun v q => by rw [hd] at q; cases q⟩
theorem IsI.at {h h' : Heap} {b : Bool} {it a : Addr} {i : Nat} (e : IsI h b it a i) (k : ∀ o, h.get? it = some o → h'.get? it = some o) : IsI h' b it a i := by
  cases b
  · exact Heap.IsTupleIter.at e k
  · exact Heap.IsListIter.at e k
theorem IsI.new {h : Heap} {b : Bool} {it a : Addr} (e : h.get? it = some (iterO b a)) : IsI h b it a 0 := by
  cases b
  · exact ⟨_, e, rfl, rfl⟩
  · exact ⟨_, e, rfl, rfl⟩
theorem IsQ.lt {h : Heap} {b : Bool} {a : Addr} {its : Array Value} (e : IsQ h b a its) : a < h.objs.size := by
  cases b
  · obtain ⟨o, ho, _⟩ := e; exact Heap.lt_size ho
  · obtain ⟨o, ho, _⟩ := e; exact Heap.lt_size ho
theorem draws {prog : Program} {w : World} {A : Around} (hh : A.handled = none) (b : Bool) (it l : Addr) (hne : l ≠ it) (its : Array Value) : Draws prog w A it [it, l] its.size (fun i v => its[i]? = some v) (fun i h => IsI h b it l i ∧ IsQ h b l its) := by
  cases b
  · exact Draws.tuple hh it l hne its
  · exact Draws.list hh it l hne its
theorem begins (b : Bool) (l : Addr) (its : Array Value) : Begins (.ref l) (iterO b l) fun h => IsQ h b l its := by
  cases b
  · exact begins_tuple l its
  · exact begins_list l its
section
variable {X : Cx} {pins : List (Addr × Obj)} {σ : L2.St} {H : Hp} {s : Shared} {a : Addr} {xs ys : List V}
theorem sq_at (I : Inv X pins σ H s) {b : Bool} (h : Sq X.K H b a xs) : ∃ its : List Value, Vals xs its ∧ IsQ s.heap b a its.toArray := by
  cases b
  · obtain ⟨its, r, p, _⟩ := I.tuple h; exact ⟨its, r, p⟩
  · obtain ⟨its, r, p, _⟩ := I.list h; exact ⟨its, r, p.isList⟩
theorem sq_inj (I : Inv X pins σ H s) {b : Bool} (h : Sq X.K H b a xs) (h' : Sq X.K H b a ys) : xs = ys := by
  cases b
  · exact I.tuple_inj h h'
  · exact I.list_inj h h'
end
/-! ### zip -/
def ItzG (K : PySem.W.Frag) (b c : Bool) (a d : Addr) : It :=
  ⟨fun i H => ∃ (xs ys : List V) (x y : V), Sq K H b a xs ∧ Sq K H c d ys ∧ xs[i]? = some x ∧ ys[i]? = some y,
    fun i H v H' => ∃ T x y, v = .ref T ∧ H T = none ∧ H' = upd H T (.tup [x, y]) ∧ (∀ xs, Sq K H b a xs → xs[i]? = some x) ∧ ∀ ys, Sq K H c d ys → ys[i]? = some y,
    fun i H => ∃ xs ys : List V, Sq K H b a xs ∧ Sq K H c d ys ∧ (xs.length = i ∧ i ≤ ys.length ∨ ys.length = i ∧ i ≤ xs.length)⟩
set_option maxHeartbeats 1000000 in
theorem turn_zipG {P : Program} {w : World} {K : PySem.W.Frag} {elts : List Expr} {kk : Nat} {tpos : Pos} {b c : Bool} {a d z TI TO i1 i2 : Addr} (D : ZipSep2 z TI TO i1 i2 [i1, a] [i2, d]) (h12 : i1 ≠ i2) (ha : a ≠ i1) (hd : d ≠ i2) :
    Turn P w K (.Tuple elts kk tpos) (ItzG K b c a d) [z, TI, TO, i1, i2] z (fun i h => IsZip h z TI TO .none ∧ IsTupOf2 h TI (.ref i1) (.ref i2) ∧ (∃ x y, IsTupOf2 h TO x y) ∧ IsI h b i1 a i ∧ IsI h c i2 d i) where
  mem := by simp
  obj := fun i h st e hc => by
    obtain ⟨hz, hTI, ⟨x, y, hTO⟩, h1, h2⟩ := st
    have e' : e = z ∨ e = TI ∨ e = TO ∨ e = i1 ∨ e = i2 := by simpa using hc
    rcases e' with q | q | q | q | q
    · rw [q]; exact ⟨_, hz, fun v q => nomatch q⟩
    · rw [q]; exact ⟨_, hTI, fun v q => nomatch q⟩
    · rw [q]; exact ⟨_, hTO, fun v q => nomatch q⟩
    · rw [q]; exact h1.obj
    · rw [q]; exact h2.obj
  keep := fun i h h' st k => by
    obtain ⟨hz, hTI, ⟨x, y, hTO⟩, h1, h2⟩ := st
    exact ⟨k z (by simp) _ hz, k TI (by simp) _ hTI, ⟨x, y, k TO (by simp) _ hTO⟩, h1.at fun o q => k i1 (by simp) o q, h2.at fun o q => k i2 (by simp) o q⟩
  item := by
    intro X hP hw hK hc i pins s σ H E I hf st hg
    subst hP hw hK
    obtain ⟨hz, hTI, ⟨x0, y0, hTO⟩, h1, h2⟩ := st
    obtain ⟨xs, ys, x, y, hqx, hqy, hx, hy⟩ := hg
    obtain ⟨its, rv, p⟩ := sq_at I hqx
    obtain ⟨its2, rv2, p2⟩ := sq_at I hqy
    obtain ⟨u, hu, ru⟩ := rv.get hx
    obtain ⟨u2, hu2, ru2⟩ := rv2.get hy
    have hzl : z < s.heap.objs.size := Heap.lt_size hz
    have hh : X.A.in1.handled = none := I.ok.hd hc
    refine wpAny_pyNext_zipD2_item D (draws hh b i1 a ha its.toArray) (draws hh c i2 d hd its2.toArray) hz hTI hTO ⟨h1, p⟩ ⟨h2, p2⟩
      (by have := (List.getElem?_eq_some_iff.mp hu).1; simpa using this) (by have := (List.getElem?_eq_some_iff.mp hu2).1; simpa using this) fun v1 v2 h' tk e1 e2 z' TO' st1' st2' hT hsz hk => ?_
    have e1 : v1 = u := by
      have e1' : its.toArray[i]? = some v1 := e1
      have : its[i]? = some v1 := by simpa using e1'
      rw [hu] at this; exact (Option.some.inj this).symm
    have e2 : v2 = u2 := by
      have e2' : its2.toArray[i]? = some v2 := e2
      have : its2[i]? = some v2 := by simpa using e2'
      rw [hu2] at this; exact (Option.some.inj this).symm
    subst e1 e2
    refine ⟨_, rfl, wpAny_letOwnedTupleGo_zip (s := { s with heap := h', toks := tk }) z' fun h'' z'' sb => ?_⟩
    have hT2 : h''.get? s.heap.objs.size = some { cls := .type "tuple", data := .seq #[v1, v2] } := (sb.2 _ (Nat.ne_of_gt hzl)).trans hT
    have new : ObjOk X.prog X.w (upd H s.heap.objs.size (.tup [x, y])) h'' s.heap.objs.size (.tup [x, y]) :=
      ⟨by show 2 ≤ sizeLine; decide, [v1, v2], .cons ru (.cons ru2 .nil), ⟨_, hT2, rfl, _, rfl⟩⟩
    have I1 : Inv X pins σ (upd H s.heap.objs.size (.tup [x, y])) { s with heap := h'', toks := tk } :=
      Inv.turnedNew (t' := tk) (ch := [z, TI, TO, i1, i2]) I (fun c o hb q => (sb.2 c (fun q' => hb (by simp [q']))).trans (hk c o (fun q' => hb (by simp [q'])) (fun q' => hb (by simp [q'])) (fun q' => hb (by simp [q'])) (fun q' => hb (by simp [q'])) q)) hf (Nat.le_refl _) new
    refine ⟨.ref s.heap.objs.size, _, I1, rfl, ⟨_, x, y, rfl, I.hok.fresh (Nat.le_refl _), rfl, fun l hl => by rw [sq_inj I hl hqx]; exact hx, fun l hl => by rw [sq_inj I hl hqy]; exact hy⟩, ⟨z'', ?_, ⟨v1, v2, ?_⟩, ?_, ?_⟩, fun c hcm => ?_⟩
    · exact (sb.2 _ D.TIz).trans (hk _ _ D.TIz D.TITO D.TIi1 D.TIi2 hTI)
    · exact (sb.2 _ D.TOz).trans TO'
    · exact st1'.1.at fun o q => (sb.2 _ D.zi1.symm).trans q
    · exact st2'.1.at fun o q => (sb.2 _ D.zi2.symm).trans q
    · have hlt : c < s.heap.objs.size := by
        have e' : c = z ∨ c = TI ∨ c = TO ∨ c = i1 ∨ c = i2 := by simpa using hcm
        rcases e' with q | q | q | q | q
        · rw [q]; exact hzl
        · rw [q]; exact Heap.lt_size hTI
        · rw [q]; exact Heap.lt_size hTO
        · rw [q]; obtain ⟨_, e1, _⟩ := h1.obj; exact Heap.lt_size e1
        · rw [q]; obtain ⟨_, e2, _⟩ := h2.obj; exact Heap.lt_size e2
      rw [upd_ne (Nat.ne_of_lt hlt)]
      exact (hf c hcm).1
  done := by
    intro X hP hw hK hc i pins s σ H E I hf st hg
    subst hP hw hK
    obtain ⟨hz, hTI, ⟨x0, y0, hTO⟩, h1, h2⟩ := st
    obtain ⟨xs, ys, hqx, hqy, hend⟩ := hg
    obtain ⟨its, rv, p⟩ := sq_at I hqx
    obtain ⟨its2, rv2, p2⟩ := sq_at I hqy
    have l1 := rv.length
    have l2 := rv2.length
    have hh : X.A.in1.handled = none := I.ok.hd hc
    exact wpAny_pyNext_zipD2_end D (draws hh b i1 a ha its.toArray) (draws hh c i2 d hd its2.toArray) hz hTI hTO ⟨h1, p⟩ ⟨h2, p2⟩ (by simp; omega) (by simp; omega) (by simp; omega) fun h' tk hk => ⟨rfl, Inv.turnedL (t' := tk) (ch := [z, TI, TO, i1, i2]) I (fun c o hb q =>
      hk c o (fun q' => hb (by simp [q'])) (fun q' => hb (by simp [q'])) (fun q' => hb (by simp [q'])) (fun q' => hb (by simp [q'])) q) hf⟩
  self := fun A i s Q E st h => wpAny_pyIter_zip st.1 h
def iZipG (K : PySem.W.Frag) (ta : TA) : L2.TI := fun σ H R => ta σ H fun vs H1 => ∃ b c a d xs ys, vs = [.ref a, .ref d] ∧ Sq K H1 b a xs ∧ Sq K H1 c d ys ∧ R (ItzG K b c a d) H1
theorem pi_zipG {X : Cx} {e e2 : Expr} {ta : TA} {p pos tpos : Pos} {elts : List Expr} {kk : Nat} (hg : Gl X "zip") (hm : X.mg "zip" = none) (ha : PA X [e, e2] ta)
    (hs : starEach [e, e2] X.env = (false, eval e X.env) :: starEach [e2] X.env := by rfl) (hpl : (backTo pos (starEach [e2] X.env)).any (·.1) = false := by rfl) :
    PI X (.Tuple elts kk tpos) (.Call (.Name "zip" p) [e, e2] [] pos) (iZipG X.K ta) := by
  refine ⟨fun pins s σ H R I h => ?_⟩
  refine Call_ (ld_blt I hg hm PyProof.Rows.boot_zip (PyProof.Rows.callWith_type1 (thn (ha.run pos pins s σ H _ I h) fun us s1 ⟨vs, H1, I1, r1, q1⟩ => ?_) hs hpl))
  obtain ⟨b, c, a, d, xs, ys, ex, hqx, hqy, q⟩ := q1
  subst ex
  cases r1 with
  | cons r rr =>
    cases rr with
    | cons r' rr =>
      cases rr
      cases r
      cases r'
      obtain ⟨its, rv, p1⟩ := sq_at I1 hqx
      obtain ⟨its2, rv2, p2⟩ := sq_at I1 hqy
      refine zip_begins2 (begins b a its.toArray) (begins c d its2.toArray) p1 p2 fun h' hz hTI hTO h1 h2 hsz hk => wpAny_pyIter_zip hz ?_
      have I2 : Inv X pins σ H1 { s1 with heap := h' } := I1.kept (t' := s1.toks) hk
      have la := p1.lt
      have ld := p2.lt
      refine ⟨s1.heap.objs.size + 4, [s1.heap.objs.size + 4, s1.heap.objs.size + 2, s1.heap.objs.size + 3, s1.heap.objs.size, s1.heap.objs.size + 1], _, _, H1, rfl, I2,
        turn_zipG (zip_sep2 (fun b hb => by rw [List.mem_singleton.mp hb]; exact la) (fun b hb => by rw [List.mem_singleton.mp hb]; exact ld)) (Nat.ne_of_lt (Nat.lt_succ_self _)) (Nat.ne_of_lt la) (Nat.ne_of_lt (Nat.lt_succ_of_lt ld)),
        ⟨hz, hTI, ⟨_, _, hTO⟩, IsI.new h1, IsI.new h2⟩, fun c hcm => ?_, q⟩
      have e' : c = s1.heap.objs.size + 4 ∨ c = s1.heap.objs.size + 2 ∨ c = s1.heap.objs.size + 3 ∨ c = s1.heap.objs.size ∨ c = s1.heap.objs.size + 1 := by simpa using hcm
      have hle : s1.heap.objs.size ≤ c := by
        rcases e' with z | z | z | z | z
        · rw [z]; exact Nat.le_add_right _ _
        · rw [z]; exact Nat.le_add_right _ _
        · rw [z]; exact Nat.le_add_right _ _
        · rw [z]; exact Nat.le_refl _
        · rw [z]; exact Nat.le_add_right _ _
      exact I1.fpOk hle (I1.hok.fresh hle)
/-! ### enumerate -/
def IteG (K : PySem.W.Frag) (b : Bool) (a : Addr) : It :=
  ⟨fun i H => ∃ (xs : List V) (x : V), Sq K H b a xs ∧ xs[i]? = some x, fun i H v H' => ∃ T x, v = .ref T ∧ H T = none ∧ H' = upd H T (.tup [.int (i : Nat), x]) ∧ ∀ xs, Sq K H b a xs → xs[i]? = some x, fun i H => ∃ xs : List V, Sq K H b a xs ∧ xs.length = i⟩
set_option maxHeartbeats 1000000 in
theorem turn_enumG {P : Program} {w : World} {K : PySem.W.Frag} {elts : List Expr} {kk : Nat} {tpos : Pos} (b : Bool) (a e it : Addr) (hei : e ≠ it) (hea : e ≠ a) (hai : a ≠ it) :
    Turn P w K (.Tuple elts kk tpos) (IteG K b a) [e, it] e (fun i h => (∃ old, IsEnum h e it ((i : Nat) : Int) old) ∧ IsI h b it a i) where
  mem := by simp
  obj := fun i h st c hb => by
    obtain ⟨⟨old, he⟩, hi⟩ := st
    have e' : c = e ∨ c = it := by simpa using hb
    rcases e' with z | z
    · rw [z]; exact ⟨_, he, fun v q => nomatch q⟩
    · rw [z]; exact hi.obj
  keep := fun i h h' st k => let ⟨⟨old, he⟩, hi⟩ := st; ⟨⟨old, k e (by simp) _ he⟩, hi.at fun o q => k it (by simp) o q⟩
  item := by
    intro X hP hw hK hc i pins s σ H E I hf st hg
    subst hP hw hK
    obtain ⟨⟨old, he⟩, hit⟩ := st
    obtain ⟨xs, x, hq, hx⟩ := hg
    obtain ⟨its, rv, p⟩ := sq_at I hq
    obtain ⟨u, hu, ru⟩ := rv.get hx
    have hel : e < s.heap.objs.size := Heap.lt_size he
    have hil : it < s.heap.objs.size := by obtain ⟨_, q, _⟩ := hit.obj; exact Heap.lt_size q
    have hh : X.A.in1.handled = none := I.ok.hd hc
    refine wpAny_pyNext_enum_itemC (draws hh b it a hai its.toArray) he ⟨hit, p⟩ (by have := (List.getElem?_eq_some_iff.mp hu).1; simpa using this) hei (by simp [hei, hea]) fun v h' tk e1 ho st' hT hsz hk => ?_
    have e1 : v = u := by
      have e1' : its.toArray[i]? = some v := e1
      have : its[i]? = some v := by simpa using e1'
      rw [hu] at this; exact (Option.some.inj this).symm
    subst e1
    refine ⟨_, rfl, wpAny_letOwnedTupleGo_enum (s := { s with heap := h', toks := tk + 1 }) ho fun h'' he' sb => ?_⟩
    have hT2 : h''.get? s.heap.objs.size = some { cls := .type "tuple", data := .seq #[.int i tk, v] } := (sb.2 _ (Nat.ne_of_gt hel)).trans hT
    have new : ObjOk X.prog X.w (upd H s.heap.objs.size (.tup [.int (i : Nat), x])) h'' s.heap.objs.size (.tup [.int (i : Nat), x]) :=
      ⟨by show 2 ≤ sizeLine; decide, [.int i tk, v], .cons ⟨_, rfl⟩ (.cons ru .nil), ⟨_, hT2, rfl, _, rfl⟩⟩
    have I1 : Inv X pins σ (upd H s.heap.objs.size (.tup [.int (i : Nat), x])) { s with heap := h'', toks := tk + 1 } :=
      Inv.turnedNew (t' := tk + 1) (ch := [e, it]) I (fun b ob hb q => (sb.2 b (fun z => hb (by simp [z]))).trans (hk b ob (fun z => hb (by simp [z])) (fun z => hb (by simp [z])) q)) hf (Nat.le_refl _) new
    refine ⟨.ref s.heap.objs.size, _, I1, rfl, ⟨_, x, rfl, I.hok.fresh (Nat.le_refl _), rfl, fun ys hy => by rw [sq_inj I hy hq]; exact hx⟩, ⟨⟨v, ?_⟩, st'.1.at fun o q => (sb.2 it (Ne.symm hei)).trans q⟩, fun b hb => ?_⟩
    · have e1 : ((i + 1 : Nat) : Int) = (i : Int) + 1 := by omega
      rw [e1]; exact he'
    · have hb' : b < s.heap.objs.size := by
        have e' : b = e ∨ b = it := by simpa using hb
        rcases e' with z | z
        · rw [z]; exact hel
        · rw [z]; exact hil
      rw [upd_ne (Nat.ne_of_lt hb')]
      exact (hf b hb).1
  done := by
    intro X hP hw hK hc i pins s σ H E I hf st hg
    subst hP hw hK
    obtain ⟨⟨old, he⟩, hit⟩ := st
    obtain ⟨xs, hq, hx⟩ := hg
    obtain ⟨its, rv, p⟩ := sq_at I hq
    obtain ⟨f0, f1, f2, f3, f4, f5⟩ := hf it (by simp)
    have hl := rv.length
    have hh : X.A.in1.handled = none := I.ok.hd hc
    have ei : its.toArray.size = i := by simp; omega
    exact wpAny_pyNext_enum_endD (draws hh b it a hai its.toArray) he (by rw [ei]; exact ⟨hit, p⟩) fun h' eb => ⟨rfl, I.turned (t' := s.toks) (fun b o hb q => eb b o hb q) f0 f1 f3 f4 f5⟩
  self := fun A i s Q E st h => let ⟨⟨_, he⟩, _⟩ := st; wpAny_pyIter_enum he h
set_option maxHeartbeats 1000000 in
theorem meets_enum1 {v : Value} {o : Obj} {H : Heap → Prop} (B : Begins v o H) :
    Meets (Builtin.«enumerate.__new__» ⟨[.type "enumerate", v], []⟩) (fun _ R s => H s.heap ∧
      R (.ok (.ret (.ref (s.heap.push o).objs.size))) { s with heap := (s.heap.push o).push { cls := .type "enumerate", data := .fields #[.none, .bool false, .ref s.heap.objs.size, rawInt 0, .none, .none] } }) :=
  .of_wp fun prog w A R s h => by
    obtain ⟨hp, g, d, tk, os⟩ := s; obtain ⟨h1, h⟩ := h
    have hsub := sub_enumerate
    have q1 : ∀ {A' : Around} {E : Value → Shared → Prop} {Q : Value → Shared → Prop}, Q (.ref hp.objs.size) ⟨hp.push o, g, d, tk, os⟩ → wpAny (model prog w) A' (pyIter v) Q E ⟨hp, g, d, tk, os⟩ :=
      fun q => B.iter prog w _ _ ⟨hp, g, d, tk, os⟩ _ h1 q
    wp_walk using q1
    refine wpAny_stack_any fun st => wpAny_pure ?_
    split
    · rename_i c _ _ _ _ _
      cases (c == Value.type "enumerate")
      · wp_walk using q1
        exact ⟨_, rfl, h⟩
      · wp_walk using q1
        exact ⟨_, rfl, h⟩
    · wp_walk using q1
      exact ⟨_, rfl, h⟩
theorem enum1_begins {prog : Program} {w : World} {A : Around} {E : Value → Shared → Prop} {s : Shared} {v : Value} {o : Obj} {H : Heap → Prop} {Q : Value → Shared → Prop} (B : Begins v o H) (h1 : H s.heap)
    (h : ∀ h', IsEnum h' (s.heap.objs.size + 1) s.heap.objs.size 0 .none → h'.get? s.heap.objs.size = some o → h'.objs.size = s.heap.objs.size + 2 →
      (∀ b o, s.heap.get? b = some o → h'.get? b = some o) → Q (.ref (s.heap.objs.size + 1)) { s with heap := h' }) :
    wpAny (model prog w) A (call (.type "enumerate") [v]) Q E s := by
  refine callType_new F.called_enumerate (by decide) (F.typeCall_enumerate_1 _) (F.newCall_enumerate_1 _) (fun obj => F.args_object_init_2 obj _) F.entry_enumerate_new
    (meets_enum1 B) ⟨h1, ?_⟩
  have hz : (s.heap.push o).objs.size = s.heap.objs.size + 1 := Heap.size_push ..
  show _ ∧ _
  rw [hz]
  have he : IsEnum ((s.heap.push o).push { cls := .type "enumerate", data := .fields #[.none, .bool false, .ref s.heap.objs.size, rawInt 0, .none, .none] }) (s.heap.objs.size + 1) s.heap.objs.size 0 .none := by
    have := Heap.get?_push_size (s.heap.push o) (o := { cls := .type "enumerate", data := .fields #[.none, .bool false, .ref s.heap.objs.size, rawInt 0, .none, .none] }) rfl
    rw [hz] at this; exact this
  refine ⟨⟨_, he, rfl⟩, h _ he (Heap.get?_push_of_some _ (Heap.get?_push_size _ B.free)) (by rw [Heap.size_push, hz]) fun b o x => Heap.get?_push_of_some _ (Heap.get?_push_of_some _ x)⟩
def iEnumG (K : PySem.W.Frag) (ta : TA) : L2.TI := fun σ H R => ta σ H fun vs H1 => ∃ b a xs, vs = [.ref a] ∧ Sq K H1 b a xs ∧ R (IteG K b a) H1
theorem pi_enumG {X : Cx} {e : Expr} {ta : TA} {p pos tpos : Pos} {elts : List Expr} {kk : Nat} (hg : Gl X "enumerate") (hm : X.mg "enumerate" = none) (ha : PA X [e] ta) (hs : starEach [e] X.env = [(false, eval e X.env)] := by rfl) :
    PI X (.Tuple elts kk tpos) (.Call (.Name "enumerate" p) [e] [] pos) (iEnumG X.K ta) := by
  refine ⟨fun pins s σ H R I h => ?_⟩
  refine Call_ (ld_blt I hg hm boot_enumerate (PyProof.Rows.callWith_type1 (thn (ha.run pos pins s σ H _ I h) fun us s1 ⟨vs, H1, I1, r1, q1⟩ => ?_) hs rfl))
  obtain ⟨b, a, xs, ex, hq, q⟩ := q1
  subst ex
  cases r1 with
  | cons r rr =>
    cases rr
    cases r
    obtain ⟨its, rv, p'⟩ := sq_at I1 hq
    refine enum1_begins (begins b a its.toArray) p' fun h' he hit hsz hk => wpAny_pyIter_enum he ?_
    have I2 : Inv X pins σ H1 { s1 with heap := h' } := I1.kept (t' := s1.toks) hk
    have la := p'.lt
    refine ⟨s1.heap.objs.size + 1, [s1.heap.objs.size + 1, s1.heap.objs.size], _, _, H1, rfl, I2, turn_enumG b a (s1.heap.objs.size + 1) s1.heap.objs.size (Nat.succ_ne_self _) (Nat.ne_of_gt (Nat.lt_succ_of_lt la)) (Nat.ne_of_lt la), ⟨⟨.none, he⟩, IsI.new hit⟩, fun b hb => ?_, q⟩
    have e' : b = s1.heap.objs.size + 1 ∨ b = s1.heap.objs.size := by simpa using hb
    have hle : s1.heap.objs.size ≤ b := by
      rcases e' with z | z
      · rw [z]; exact Nat.le_add_right _ _
      · rw [z]; exact Nat.le_refl _
    exact I1.fpOk hle (I1.hok.fresh hle)
end Pv
set_option Elab.async false
set_option linter.all false
set_option maxRecDepth 100000
/-! P11: enumerate, zip over data; dicts -/
namespace Pv
open PySem PySem.Spec PyProof.Rows L2
section
variable {X : Cx} {K : PySem.W.Frag} {G0 G G1 G' H H' : Hp} {σ : L2.St} {ρ : Env} {ws : List (V × Arg)} {F F1 F2 : List Addr} {e a b c tg : Expr} {es : List Expr} {pos : Pos} {A B C : Fe}
/-! ### enumerate, zip -/
def seqD : D → Option (Bool × List D)
  | .lst ds => some (true, ds)
  | .tup ds => some (false, ds)
  | .ktp ds => some (false, ds)
  | _ => none
theorem seqD_rep {d : D} {v : V} {b : Bool} {ds : List D} (h : seqD d = some (b, ds)) (r : RepF K G d v) : ∃ a xs, v = .ref a ∧ Sq K G b a xs ∧ RepFs K G ds xs := by
  cases d <;> first | (cases h; done) | skip
  · cases h; obtain ⟨a, xs, h1, h2, h3⟩ := r; exact ⟨a, xs, h1, SqT.of h2, h3⟩
  · cases h; obtain ⟨a, xs, h1, h2, h3⟩ := r; exact ⟨a, xs, h1, SqL.of h2, h3⟩
  · cases h; obtain ⟨a, xs, h1, h2, h3⟩ := r; exact ⟨a, xs, h1, h2.sq, h3⟩
theorem same_q (e : Same G G') {b : Bool} {a : Addr} {xs : List V} (h : Sq K G b a xs) : Sq K G' b a xs := by
  cases b
  · exact same_t e h
  · exact same_l e h
def enumF : Nat → List D → List D
  | _, [] => []
  | i, d :: ds => .tup [.int (i : Nat), d] :: enumF (i + 1) ds
def zipF : List D → List D → List D
  | d :: ds, c :: cs => .tup [d, c] :: zipF ds cs
  | _, _ => []
theorem enumF_len : ∀ (i : Nat) (ds : List D), (enumF i ds).length = ds.length
  | _, [] => rfl
  | i, d :: ds => by rw [enumF, List.length_cons, List.length_cons, enumF_len]
theorem enumF_get : ∀ (i j : Nat) (ds : List D) (d : D), ds[j]? = some d → (enumF i ds)[j]? = some (.tup [.int ((i + j : Nat) : Int), d])
  | i, 0, d' :: ds, d, h => by simp at h; subst h; rfl
  | i, j + 1, d' :: ds, d, h => by
    have := enumF_get (i + 1) j ds d (by simpa using h)
    rw [enumF, List.getElem?_cons_succ, this]
    congr 4
    omega
  | i, j, [], d, h => by simp at h
theorem zipF_len : ∀ (ds cs : List D), (zipF ds cs).length = min ds.length cs.length
  | [], cs => by simp [zipF]
  | d :: ds, [] => by simp [zipF]
  | d :: ds, c :: cs => by simp [zipF, zipF_len ds cs]
theorem zipF_get : ∀ (j : Nat) (ds cs : List D) (d c : D), ds[j]? = some d → cs[j]? = some c → (zipF ds cs)[j]? = some (.tup [d, c])
  | 0, d' :: ds, c' :: cs, d, c, h, q => by simp at h q; subst h q; rfl
  | j + 1, d' :: ds, c' :: cs, d, c, h, q => by
    rw [zipF, List.getElem?_cons_succ]
    exact zipF_get j ds cs d c (by simpa using h) (by simpa using q)
  | j, [], cs, d, c, h, q => by simp at h
  | j, d' :: ds, [], d, c, h, q => by simp at q
theorem Grow.rep_tup {p : Addr} {ds : List D} {xs : List V} (e : Same G H) (hp : H p = none) (r : RepFs K G ds xs) : RepF K (upd G p (.tup xs)) (.tup ds) (.ref p) := by
  have g := Grow.newF (o := .tup xs) e hp
  exact ⟨p, xs, rfl, upd_same, RepFs.mono g.gg _ _ r⟩
theorem Items.enumF {a : Addr} {ds : List D} {xs : List V} {G1 : Hp} {bb : Bool} (h : Sq K G1 bb a xs) (r : RepFs K G1 ds xs) : Items K (IteG K bb a) (enumF 0 ds) (fun G H => Same G1 G ∧ Same G H) where
  goes := fun i G H hi ⟨e1, e2⟩ => by
    rw [enumF_len] at hi
    exact ⟨xs, xs[i]'(by rw [r.len]; exact hi), same_q e2 (same_q e1 h), by simp [r.len, hi]⟩
  stops := fun G H ⟨e1, e2⟩ => ⟨xs, same_q e2 (same_q e1 h), by rw [r.len, enumF_len]⟩
  yields := fun i G H x H' hi ⟨e1, e2⟩ ⟨T, y, hv, hT, hH, hx⟩ => by
    rw [enumF_len] at hi
    subst hv hH
    have hd := List.getElem?_eq_getElem hi
    obtain ⟨z, h1, h2⟩ := (RepFs.mono e1 _ _ r).get hd
    have := hx xs (same_q e2 (same_q e1 h))
    rw [h1] at this
    cases this
    refine ⟨_, .tup [.int ((0 + i : Nat) : Int), ds[i]], Grow.newF (o := .tup _) e2 hT, enumF_get 0 i ds _ hd, ?_⟩
    refine Grow.rep_tup e2 hT ⟨_, _, rfl, ?_, _, [], rfl, h2, rfl⟩
    show V.int _ = V.int _
    simp
theorem Items.zipF {a d : Addr} {ds cs : List D} {xs ys : List V} {G1 : Hp} {b1 b2 : Bool} (h : Sq K G1 b1 a xs) (r : RepFs K G1 ds xs) (h' : Sq K G1 b2 d ys) (r' : RepFs K G1 cs ys) : Items K (ItzG K b1 b2 a d) (zipF ds cs) (fun G H => Same G1 G ∧ Same G H) where
  goes := fun i G H hi ⟨e1, e2⟩ => by
    rw [zipF_len] at hi
    exact ⟨xs, ys, xs[i]'(by rw [r.len]; omega), ys[i]'(by rw [r'.len]; omega), same_q e2 (same_q e1 h), same_q e2 (same_q e1 h'), List.getElem?_eq_getElem _, List.getElem?_eq_getElem _⟩
  stops := fun G H ⟨e1, e2⟩ => ⟨xs, ys, same_q e2 (same_q e1 h), same_q e2 (same_q e1 h'), by rw [r.len, r'.len, zipF_len]; omega⟩
  yields := fun i G H x H' hi ⟨e1, e2⟩ ⟨T, y, z, hv, hT, hH, hx, hy⟩ => by
    rw [zipF_len] at hi
    subst hv hH
    have hi1 : i < ds.length := by omega
    have hi2 : i < cs.length := by omega
    have hd := List.getElem?_eq_getElem hi1
    have hc := List.getElem?_eq_getElem hi2
    obtain ⟨z1, h1, h2⟩ := (RepFs.mono e1 _ _ r).get hd
    obtain ⟨z2, h3, h4⟩ := (RepFs.mono e1 _ _ r').get hc
    have t1 := hx xs (same_q e2 (same_q e1 h))
    have t2 := hy ys (same_q e2 (same_q e1 h'))
    rw [h1] at t1; rw [h3] at t2
    cases t1; cases t2
    exact ⟨_, .tup [ds[i], cs[i]], Grow.newF (o := .tup _) e2 hT, zipF_get i ds cs _ _ hd hc, Grow.rep_tup e2 hT ⟨_, _, rfl, h2, _, [], rfl, h4, rfl⟩⟩
/-- the arguments of a call, all frozen -/
theorem args_frozen {f : Fa} {G0 : Hp} {ρ : Env} {as : List Arg} {ds : List D} {Q : List V → Hp → Prop} (I : SI K G0 σ ρ ws H) (hf : f ρ = some as) (ho : ownAll as = some ds)
    (q : ∀ vs H1 G F1 F2, Si K G0 σ ρ ws H1 G F1 F2 → RepFs K G ds vs → Q vs H1) : tA K f σ H Q :=
  ⟨G0, ρ, ws, as, I, hf, fun vs H1 hl I1 => by
    obtain ⟨G, F1, F2, J⟩ := I1
    obtain ⟨F3, J⟩ := Si.perm ((List.reverse_perm _).append_right ws) J
    obtain ⟨G1, F4, J1, e1, r1⟩ := Si.freezeN as vs ds hl ho J
    exact q vs H1 G1 F1 F4 J1 r1⟩
def iEnum (A : Fe) : Fit := fun ρ => (aCons A aNil ρ).bind fun as => (ownAll as).bind fun ds => match ds with
  | [d] => (seqD d).map fun p => enumF 0 p.2
  | _ => none
def iZip (A B : Fe) : Fit := fun ρ => (aCons A (aCons B aNil) ρ).bind fun as => (ownAll as).bind fun ds => match ds with
  | [d, c] => (seqD d).bind fun p => (seqD c).map fun q => zipF p.2 q.2
  | _ => none
theorem i_enum {p tpos : Pos} {elts : List Expr} {kk : Nat} (hg : Gl X "enumerate") (hm : X.mg "enumerate" = none) (ha : OkE X a A) (hs : starEach [a] X.env = [(false, eval a X.env)] := by rfl) : OkI X (.Tuple elts kk tpos) (.Call (.Name "enumerate" p) [a] [] pos) (iEnum A) :=
  PI.imp (pi_enumG (ta := tA X.K (aCons A aNil)) hg hm (a_cons ha a_nil hs) hs) fun σ H R ⟨G0, ρ, ds, I, hf, q⟩ => by
  obtain ⟨as, has, hf⟩ := Option.bind_eq_some_iff.mp hf
  obtain ⟨cs, hcs, hf⟩ := Option.bind_eq_some_iff.mp hf
  split at hf
  · obtain ⟨⟨bb, es⟩, hq, rfl⟩ := Option.map_eq_some_iff.mp hf
    refine args_frozen I has hcs fun vs H1 G F1 F2 J r => ?_
    obtain ⟨v, vs, rfl, r1, rfl⟩ := r
    obtain ⟨x, xs, rfl, h2, h3⟩ := seqD_rep hq r1
    exact ⟨bb, x, xs, rfl, same_q J.ex h2, q _ H1 G J.ex0 J.up (Items.enumF h2 h3)⟩
  · cases hf
theorem i_zip {p tpos : Pos} {elts : List Expr} {kk : Nat} (hg : Gl X "zip") (hm : X.mg "zip" = none) (ha : OkE X a A) (hb : OkE X b B) (hs : starEach [a, b] X.env = (false, eval a X.env) :: starEach [b] X.env := by rfl) (hs2 : starEach [b] X.env = [(false, eval b X.env)] := by rfl)
    (hpl : (backTo pos (starEach [b] X.env)).any (·.1) = false := by rfl) : OkI X (.Tuple elts kk tpos) (.Call (.Name "zip" p) [a, b] [] pos) (iZip A B) :=
  PI.imp (pi_zipG (ta := tA X.K (aCons A (aCons B aNil))) hg hm (a_cons ha (a_cons hb a_nil hs2) hs) hs hpl) fun σ H R ⟨G0, ρ, ds, I, hf, q⟩ => by
  obtain ⟨as, has, hf⟩ := Option.bind_eq_some_iff.mp hf
  obtain ⟨cs, hcs, hf⟩ := Option.bind_eq_some_iff.mp hf
  split at hf
  · obtain ⟨⟨b1, es⟩, hq, hf⟩ := Option.bind_eq_some_iff.mp hf
    obtain ⟨⟨b2, fs⟩, hq2, rfl⟩ := Option.map_eq_some_iff.mp hf
    refine args_frozen I has hcs fun vs H1 G F1 F2 J r => ?_
    obtain ⟨v, vs, rfl, r1, v2, vs2, rfl, r2, rfl⟩ := r
    obtain ⟨x, xs, rfl, h2, h3⟩ := seqD_rep hq r1
    obtain ⟨y, ys, rfl, h4, h5⟩ := seqD_rep hq2 r2
    exact ⟨b1, b2, x, y, xs, ys, rfl, same_q J.ex h2, same_q J.ex h4, q _ H1 G J.ex0 J.up (Items.zipF h2 h3 h4 h5)⟩
  · cases hf
/-- the same for comprehensions -/
theorem c_enum {p tpos : Pos} {elts : List Expr} {kk : Nat} (hg : Gl X "enumerate") (hm : X.mg "enumerate" = none) (ha : OkE X a A) (hs : starEach [a] X.env = [(false, eval a X.env)] := by rfl) : OkIc X (.Tuple elts kk tpos) (.Call (.Name "enumerate" p) [a] [] pos) (iEnum A) :=
  PI.imp (pi_enumG (ta := tA X.K (aCons A aNil)) hg hm (a_cons ha a_nil hs) hs) fun σ H R ⟨G0, ρ, ws, ds, I, hf, q⟩ => by
  obtain ⟨as, has, hf⟩ := Option.bind_eq_some_iff.mp hf
  obtain ⟨cs, hcs, hf⟩ := Option.bind_eq_some_iff.mp hf
  split at hf
  · obtain ⟨⟨bb, es⟩, hq, rfl⟩ := Option.map_eq_some_iff.mp hf
    refine args_frozen I has hcs fun vs H1 G F1 F2 J r => ?_
    obtain ⟨v, vs, rfl, r1, rfl⟩ := r
    obtain ⟨x, xs, rfl, h2, h3⟩ := seqD_rep hq r1
    exact ⟨bb, x, xs, rfl, same_q J.ex h2, q _ H1 G J.ex0 J.up (Items.enumF h2 h3).toC⟩
  · cases hf
theorem c_zip {p tpos : Pos} {elts : List Expr} {kk : Nat} (hg : Gl X "zip") (hm : X.mg "zip" = none) (ha : OkE X a A) (hb : OkE X b B) (hs : starEach [a, b] X.env = (false, eval a X.env) :: starEach [b] X.env := by rfl) (hs2 : starEach [b] X.env = [(false, eval b X.env)] := by rfl)
    (hpl : (backTo pos (starEach [b] X.env)).any (·.1) = false := by rfl) : OkIc X (.Tuple elts kk tpos) (.Call (.Name "zip" p) [a, b] [] pos) (iZip A B) :=
  PI.imp (pi_zipG (ta := tA X.K (aCons A (aCons B aNil))) hg hm (a_cons ha (a_cons hb a_nil hs2) hs) hs hpl) fun σ H R ⟨G0, ρ, ws, ds, I, hf, q⟩ => by
  obtain ⟨as, has, hf⟩ := Option.bind_eq_some_iff.mp hf
  obtain ⟨cs, hcs, hf⟩ := Option.bind_eq_some_iff.mp hf
  split at hf
  · obtain ⟨⟨b1, es⟩, hq, hf⟩ := Option.bind_eq_some_iff.mp hf
    obtain ⟨⟨b2, fs⟩, hq2, rfl⟩ := Option.map_eq_some_iff.mp hf
    refine args_frozen I has hcs fun vs H1 G F1 F2 J r => ?_
    obtain ⟨v, vs, rfl, r1, v2, vs2, rfl, r2, rfl⟩ := r
    obtain ⟨x, xs, rfl, h2, h3⟩ := seqD_rep hq r1
    obtain ⟨y, ys, rfl, h4, h5⟩ := seqD_rep hq2 r2
    exact ⟨b1, b2, x, y, xs, ys, rfl, same_q J.ex h2, same_q J.ex h4, q _ H1 G J.ex0 J.up (Items.zipF h2 h3 h4 h5).toC⟩
  · cases hf
/-! ### dicts: reading -/
def keyK : D → Option Key
  | .int i => some (.inl i)
  | .str s => some (.inr s)
  | _ => none
def keysK : List D → Option (List Key)
  | [] => some []
  | d :: ds => (keyK d).bind fun k => (keysK ds).map fun ks => k :: ks
def keyD : Bool → D → Option (List Key)
  | false, d => (keyK d).map fun k => [k]
  | true, .tup ds => keysK ds
  | true, _ => none
theorem keyK_rep {k : Nat} {d : D} {v : V} {κ : Key} (h : keyK d = some κ) (r : RO K G H k d v F) : v = kV κ := by
  cases d <;> first | (cases h; done) | skip
  · cases h; exact r.int
  · cases h; exact r.str
theorem keysK_rep : ∀ {ds : List D} {xs : List V} {ks : List Key}, keysK ds = some ks → RepFs K G ds xs → xs = ks.map kV
  | [], _, _, h, r => by cases h; exact r
  | d :: ds, _, _, h, ⟨x, r, h1, h2, h3⟩ => by
    obtain ⟨k, hk, h⟩ := Option.bind_eq_some_iff.mp h
    obtain ⟨ks, hks, rfl⟩ := Option.map_eq_some_iff.mp h
    have e1 : x = kV k := keyK_rep (K := K) (G := G) (H := G) (k := 0) (F := []) hk ⟨h2, rfl⟩
    have e2 := keysK_rep hks h3
    subst h1 e1 e2
    rfl
def valD : List (List Key × D) → List Key → Option D
  | [], _ => none
  | p :: r, k => if p.1 = k then some p.2 else valD r k
theorem valD_some : ∀ {kvs : List (List Key × D)} {xs : List (List Key × V)} {k : List Key} {d : D}, RepFk K G kvs xs → valD kvs k = some d → ∃ x, valV xs k = some x ∧ RepF K G d x
  | [], _, _, _, _, h => by cases h
  | (k', d') :: r, _, k, d, ⟨x, xs, h1, h2, h3⟩, h => by
    subst h1
    unfold valD at h
    split at h
    · rename_i e
      cases h
      exact ⟨x, valV_pos e, h2⟩
    · rename_i e
      rw [valV_neg e]
      exact valD_some h3 h
theorem valD_none : ∀ {kvs : List (List Key × D)} {xs : List (List Key × V)} {k : List Key}, RepFk K G kvs xs → valD kvs k = none → valV xs k = none
  | [], _, _, h, _ => by rw [show _ = [] from h]; rfl
  | (k', d') :: r, _, k, ⟨x, xs, h1, h2, h3⟩, h => by
    subst h1
    unfold valD at h
    split at h
    · cases h
    · rename_i e
      rw [valV_neg e]
      exact valD_none h3 h
theorem valV_head (k : Key) : ∀ (xs : List (List Key × V)), (∀ p ∈ xs, ∃ k, p.1 = [k]) → valV (xs.map fun p => (p.1.headD (.inl 0), p.2)) k = valV xs [k]
  | [], _ => rfl
  | p :: xs, h => by
    obtain ⟨j, hj⟩ := h p List.mem_cons_self
    have ih := valV_head k xs fun q hq => h q (List.mem_cons_of_mem _ hq)
    by_cases e : j = k
    · rw [List.map_cons, valV_pos (p := (p.1.headD (.inl 0), p.2)) (by rw [hj]; exact e), valV_pos (p := p) (by rw [hj, e])]
    · rw [List.map_cons, valV_neg (p := (p.1.headD (.inl 0), p.2)) (by rw [hj]; exact e), valV_neg (p := p) (by rw [hj]; simpa using e), ih]
theorem dget_rep {t : Bool} {a : Addr} {xs : List (List Key × V)} {k : Nat} {d : D} {v : V} {ks : List Key} (e : Same G H) (h : Rd H a (hoD t xs)) (ok : keysOk t xs) (hk : keyD t d = some ks) (r : RO K G H k d v F) : DGet H a v (valV xs ks) := by
  cases t with
  | false =>
    obtain ⟨κ, hκ, rfl⟩ := Option.map_eq_some_iff.mp hk
    obtain rfl := keyK_rep hκ r
    exact .inl ⟨_, κ, h, rfl, (valV_head κ xs (ok rfl)).symm⟩
  | true =>
    cases d <;> first | (cases hk; done) | skip
    rename_i ds
    obtain ⟨b, ys, rfl, h1, h2⟩ := r.tupE
    exact .inr ⟨xs, ks, b, h, rfl, by rw [e _ _ h1, keysK_rep hk h2], rfl⟩
theorem ROk.to_F : ∀ {kvs : List (List Key × D)} {xs : List (List Key × V)} {F : List Addr}, ROk (RO K G H 0) kvs xs F → RepFk K G kvs xs ∧ F = []
  | [], _, _, h => h
  | (k, d) :: ds, _, _, ⟨x, r, F1, F2, h1, h2, h3, h4⟩ => by
    obtain ⟨q1, q2⟩ := ROk.to_F h4
    exact ⟨⟨x, r, h1, h3.1, q1⟩, by rw [h2, h3.2, q2]; rfl⟩
theorem ROk.of_F : ∀ {kvs : List (List Key × D)} {xs : List (List Key × V)}, RepFk K G kvs xs → ROk (RO K G H 0) kvs xs []
  | [], _, h => ⟨h, rfl⟩
  | (k, d) :: ds, _, ⟨x, r, h1, h2, h3⟩ => ⟨x, r, [], [], h1, rfl, ⟨h2, rfl⟩, ROk.of_F h3⟩
/-- a dict whose values are frozen -/
theorem RO.dct1 {k : Nat} {t : Bool} {kvs : List (List Key × D)} {v : V} (e : Same G H) (hk : k ≤ 1) (r : RO K G H k (.dct t kvs) v F) : ∃ a xs, v = .ref a ∧ Rd H a (hoD t xs) ∧ keysOk t xs ∧ RepFk K G kvs xs := by
  match k, hk, r with
  | 0, _, r => obtain ⟨⟨a, xs, h1, h2, h4, h3⟩, _⟩ := r; exact ⟨a, xs, h1, same_rd e h2, h4, h3⟩
  | 1, _, r => obtain ⟨a, xs, F', h1, h2, h5, h3, h4⟩ := r; exact ⟨a, xs, h1, .inl h2, h5, (ROk.to_F h4).1⟩
def gDGet : W → W → Option W
  | (k, .dct t kvs), (_, d) => if k ≤ 1 then (keyD t d).bind fun ks => (valD kvs ks).map fun c => (0, c) else none
  | _, _ => none
theorem g_dget : Op2 K (fun x y H Q => ∃ a v, x = .ref a ∧ DGet H a y (some v) ∧ Q v H) gDGet := by
  intro G H u v x y Fu Fv w e ru rv hw
  unfold gDGet at hw; split at hw
  · split at hw
    · rename_i hk
      obtain ⟨ks, hks, hw⟩ := Option.bind_eq_some_iff.mp hw
      obtain ⟨c, hc, rfl⟩ := Option.map_eq_some_iff.mp hw
      obtain ⟨a, xs, rfl, h1, h2, h3⟩ := ru.dct1 e hk
      obtain ⟨z, hz, rz⟩ := valD_some h3 hc
      have := dget_rep e h1 h2 hks rv
      rw [hz] at this
      exact Res.pure e rz fun Q q => ⟨a, z, rfl, this, q⟩
    · cases hw
  · cases hw
theorem e_dget (hu : X.A.units + 1 < cLine) (ha : OkE X a A) (hb : OkE X b B) (hs : NoSl b := by exact fun _ _ => rfl) : OkE X (.Subscript a b pos) (pOp2 gDGet A B) := PE.imp (pe_dget hu ha hb hs) (op2_imp g_dget)
def gDIn (neg : Bool) : W → W → Option W
  | (_, d), (k, .dct t kvs) => if k ≤ 1 then (keyD t d).map fun ks => (0, .bl (neg != (valD kvs ks).isSome)) else none
  | _, _ => none
theorem din_core {t : Bool} {k j : Nat} {kvs : List (List Key × D)} {d : D} {x y : V} {Fu Fv : List Addr} {ks : List Key} (e : Same G H) (hk : k ≤ 1) (hks : keyD t d = some ks) (ru : RO K G H j d x Fu) (rv : RO K G H k (.dct t kvs) y Fv) : ∃ a o, y = .ref a ∧ DGet H a x o ∧ o.isSome = (valD kvs ks).isSome := by
  obtain ⟨a, xs, rfl, h1, h2, h3⟩ := rv.dct1 e hk
  refine ⟨a, _, rfl, dget_rep e h1 h2 hks ru, ?_⟩
  cases hc : valD kvs ks with
  | none => rw [valD_none h3 hc]; rfl
  | some c =>
    obtain ⟨z, hz, _⟩ := valD_some h3 hc
    rw [hz]; rfl
theorem g_din : Op2 K (fun y x H Q => ∃ a o, x = .ref a ∧ DGet H a y o ∧ Q (.bl o.isSome) H) (gDIn false) := by
  intro G H u v x y Fu Fv w e ru rv hw
  unfold gDIn at hw; split at hw
  · split at hw
    · rename_i hk
      obtain ⟨ks, hks, rfl⟩ := Option.map_eq_some_iff.mp hw
      obtain ⟨a, o, rfl, h1, h2⟩ := din_core e hk hks ru rv
      exact Res.pure (v := .bl o.isSome) e (by show V.bl _ = V.bl _; rw [h2, Bool.false_bne]) fun Q q => ⟨a, o, rfl, h1, q⟩
    · cases hw
  · cases hw
theorem g_dnotin : Op2 K (fun y x H Q => ∃ a o, x = .ref a ∧ DGet H a y o ∧ Q (.bl (!o.isSome)) H) (gDIn true) := by
  intro G H u v x y Fu Fv w e ru rv hw
  unfold gDIn at hw; split at hw
  · split at hw
    · rename_i hk
      obtain ⟨ks, hks, rfl⟩ := Option.map_eq_some_iff.mp hw
      obtain ⟨a, o, rfl, h1, h2⟩ := din_core e hk hks ru rv
      exact Res.pure (v := .bl (!o.isSome)) e (by show V.bl _ = V.bl _; rw [h2, Bool.true_bne]) fun Q q => ⟨a, o, rfl, h1, q⟩
    · cases hw
  · cases hw
theorem e_din (hu : X.A.units + 1 < cLine) (ha : OkE X a A) (hb : OkE X b B) (hm : behindInMarks .In b = false := by rfl) : OkE X (.Compare a [.In] [b] pos) (pOp2 (gDIn false) A B) := PE.imp (pe_cmp (pc_din hu ha hb) hm) (op2_imp g_din)
theorem e_dnotin (hu : X.A.units + 1 < cLine) (ha : OkE X a A) (hb : OkE X b B) (hm : behindInMarks .NotIn b = false := by rfl) : OkE X (.Compare a [.NotIn] [b] pos) (pOp2 (gDIn true) A B) := PE.imp (pe_cmp (pc_dnotin hu ha hb) hm) (op2_imp g_dnotin)
/-- {} -/
def pDNew (k : Nat) (t : Bool) : Fe := fun _ => some (.v (k + 1) (.dct t []))
theorem e_dnewK {k : Nat} : OkE X (.Dict [] [] pos) (pDNew k false) := PE.imp pe_dnewK fun σ H Q ⟨G0, ρ, ws, a, ⟨G, F1, F2, J⟩, hf, q⟩ p hp => by
  cases hf
  have g := Grow.newO (o := .dK []) J.ex hp trivial
  exact q _ _ (J.push (k := k + 1) (d := .dct false []) g ⟨p, [], [], rfl, upd_same, (fun _ p h => by cases h), rfl, rfl, rfl⟩).SI
theorem e_dnewT {k : Nat} : OkE X (.Dict [] [] pos) (pDNew k true) := PE.imp pe_dnewT fun σ H Q ⟨G0, ρ, ws, a, ⟨G, F1, F2, J⟩, hf, q⟩ p hp => by
  cases hf
  have g := Grow.newO (o := .dT []) J.ex hp trivial
  exact q _ _ (J.push (k := k + 1) (d := .dct true []) g ⟨p, [], [], rfl, upd_same, (fun h => by cases h), rfl, rfl, rfl⟩).SI
/-- d.get(k, z), z frozen -/
def pGet2 (A B C : Fe) : Fe := fun ρ => (val A ρ).bind fun u => (val B ρ).bind fun v => (C ρ).bind fun c => match u, c with
  | (k, .dct t kvs), .v _ z => if k ≤ 1 then (keyD t v.2).map fun ks => .v 0 ((valD kvs ks).getD z) else none
  | _, _ => none
theorem e_dget2 {apos cpos : Pos} (hu : X.A.units + 1 < cLine) (ha : OkE X a A) (hb : OkE X b B) (hc : OkE X c C) (m : M2 X a "get" apos b c cpos := by exact ⟨rfl, rfl, rfl, rfl⟩) : OkE X (.Call (.Attribute a "get" apos) [b, c] [] cpos) (pGet2 A B C) :=
  PE.imp (pe_dget2 hu ha hb hc m) fun σ H Q ⟨G0, ρ, ws, x, I, hf, q⟩ => by
  obtain ⟨⟨k, du⟩, hu, hf1⟩ := Option.bind_eq_some_iff.mp hf
  obtain ⟨v, hv, hf2⟩ := Option.bind_eq_some_iff.mp hf1
  obtain ⟨c, hc, hf3⟩ := Option.bind_eq_some_iff.mp hf2
  clear hf hf1 hf2
  cases du <;> first | (cases hf3; done) | skip
  rename_i t kvs
  cases c with
  | r j => cases hf3
  | v k2 z =>
    have hf := hf3
    clear hf3
    simp only at hf
    split at hf
    · rename_i hk
      obtain ⟨ks, hks, rfl⟩ := Option.map_eq_some_iff.mp hf
      obtain ⟨a1, ha, hg1⟩ := val_some hu
      obtain ⟨a2, hb, hg2⟩ := val_some hv
      refine ⟨G0, ρ, ws, a1, I, ha, fun x1 H1 I1 => ?_⟩
      have hx1 : ∃ p, x1 = .ref p ∧ IsD H1 p := by
        obtain ⟨G, F1, F2, J⟩ := I1
        obtain ⟨Fx, rx⟩ := J.top hg1
        obtain ⟨p, xs, rfl, h1, _⟩ := rx.dct1 J.ex hk
        cases t
        · exact ⟨p, rfl, .inl ⟨_, (h1 : Rd _ _ (.dK _))⟩⟩
        · exact ⟨p, rfl, .inr ⟨_, (h1 : Rd _ _ (.dT _))⟩⟩
      obtain ⟨p, rfl, hp⟩ := hx1
      refine ⟨p, rfl, hp, G0, ρ, (V.ref p, a1) :: ws, a2, I1, hb, fun y H2 I2 => ⟨G0, ρ, (y, a2) :: (V.ref p, a1) :: ws, .v k2 z, I2, hc, fun z' H3 I3 => ?_⟩⟩
      obtain ⟨G, F1, F2, J⟩ := I3
      obtain ⟨G', F3, J1, e1, rz⟩ := J.freeze
      obtain ⟨Fy, ry⟩ := Si.top (ws := (V.ref p, a1) :: ws) J1 hg2
      obtain ⟨F4, _, J2⟩ := Si.drop (ws := (V.ref p, a1) :: ws) J1
      obtain ⟨Fx, rx⟩ := Si.top (ws := ws) J2 hg1
      obtain ⟨F5, _, J3⟩ := Si.drop (ws := ws) J2
      obtain ⟨p', xs, ep, h1, h2, h3⟩ := rx.dct1 J3.ex hk
      cases ep
      refine ⟨_, dget_rep J3.ex h1 h2 hks ry, ?_⟩
      cases hd : valD kvs ks with
      | none =>
        rw [hd] at q
        rw [valD_none h3 hd]
        exact q _ _ (J3.pushF rz).SI
      | some d =>
        rw [hd] at q
        obtain ⟨w, hw, rw'⟩ := valD_some h3 hd
        rw [hw]
        exact q _ _ (J3.pushF rw').SI
    · cases hf
/-! ### dicts: writing -/
def putD (kvs : List (List Key × D)) (k : List Key) (d : D) : List (List Key × D) :=
  if (valD kvs k).isSome = true then kvs.map (fun p => if p.1 = k then (p.1, d) else p) else kvs ++ [(k, d)]
theorem RepFk.map {k : List Key} {d : D} {y : V} (hy : RepF K G d y) : ∀ {kvs : List (List Key × D)} {xs : List (List Key × V)}, RepFk K G kvs xs → RepFk K G (kvs.map fun p => if p.1 = k then (p.1, d) else p) (xs.map fun p => if p.1 = k then (p.1, y) else p)
  | [], _, h => by rw [show _ = [] from h]; exact (rfl : ([] : List (List Key × V)) = [])
  | (k', d') :: r, _, ⟨x, xs, h1, h2, h3⟩ => by
    subst h1
    rw [List.map_cons, List.map_cons]
    by_cases e : k' = k
    · rw [if_pos e, if_pos e]
      exact ⟨y, _, rfl, hy, RepFk.map hy h3⟩
    · rw [if_neg e, if_neg e]
      exact ⟨x, _, rfl, h2, RepFk.map hy h3⟩
theorem RepFk.snoc {k : List Key} {d : D} {y : V} (hy : RepF K G d y) : ∀ {kvs : List (List Key × D)} {xs : List (List Key × V)}, RepFk K G kvs xs → RepFk K G (kvs ++ [(k, d)]) (xs ++ [(k, y)])
  | [], _, h => by rw [show _ = [] from h]; exact ⟨y, [], rfl, hy, rfl⟩
  | (k', d') :: r, _, ⟨x, xs, h1, h2, h3⟩ => by subst h1; exact ⟨x, xs ++ [(k, y)], rfl, h2, RepFk.snoc hy h3⟩
theorem RepFk.len : ∀ {kvs : List (List Key × D)} {xs : List (List Key × V)}, RepFk K G kvs xs → xs.length = kvs.length
  | [], _, h => by rw [show _ = [] from h]; rfl
  | (k', d') :: r, _, ⟨x, xs, h1, h2, h3⟩ => by rw [h1, List.length_cons, List.length_cons, RepFk.len h3]
theorem put_rep {kvs : List (List Key × D)} {xs : List (List Key × V)} {k : List Key} {d : D} {y : V} (h : RepFk K G kvs xs) (hy : RepF K G d y) : RepFk K G (putD kvs k d) (putK xs k y) := by
  unfold putD putK
  rw [valV_any]
  have : (valV xs k).isSome = (valD kvs k).isSome := by
    cases hc : valD kvs k with
    | none => rw [valD_none h hc]; rfl
    | some c => obtain ⟨z, hz, _⟩ := valD_some h hc; rw [hz]; rfl
  rw [this]
  split
  · exact h.map hy
  · exact h.snoc hy
theorem put_head {k : Key} {y : V} {xs : List (List Key × V)} (ok : ∀ p ∈ xs, ∃ k, p.1 = [k]) : (putK xs [k] y).map (fun p => (p.1.headD (.inl 0), p.2)) = putK (xs.map fun p => (p.1.headD (.inl 0), p.2)) k y := by
  unfold putK
  rw [valV_any, valV_any, valV_head k xs ok]
  split
  · rw [List.map_map, List.map_map]
    refine List.map_congr_left fun p hp => ?_
    obtain ⟨j, hj⟩ := ok p hp
    simp only [Function.comp]
    by_cases e : j = k
    · rw [if_pos (by rw [hj, e]), if_pos (by rw [hj]; exact e)]
    · rw [if_neg (by rw [hj]; simpa using e), if_neg (by rw [hj]; exact e)]
  · rw [List.map_append]; rfl
theorem put_ok {t : Bool} {d : D} {k : List Key} {y : V} {xs : List (List Key × V)} (hk : keyD t d = some k) (ok : keysOk t xs) : keysOk t (putK xs k y) := by
  intro ht p hp
  subst ht
  obtain ⟨κ, _, rfl⟩ := Option.map_eq_some_iff.mp hk
  unfold putK at hp
  split at hp
  · obtain ⟨q, hq, e⟩ := List.mem_map.mp hp
    obtain ⟨j, hj⟩ := ok rfl q hq
    split at e
    · subst e; exact ⟨j, hj⟩
    · subst e; exact ⟨j, hj⟩
  · rcases List.mem_append.mp hp with q | q
    · exact ok rfl p q
    · rw [List.mem_singleton.mp q]; exact ⟨κ, rfl⟩
theorem dput_rep {t : Bool} {a : Addr} {xs : List (List Key × V)} {k : Nat} {d : D} {v y : V} {ks : List Key} (e : Same G H) (h : H a = some (hoD t xs)) (ok : keysOk t xs) (hk : keyD t d = some ks) (r : RO K G H k d v F) (hz : xs.length < sizeLine) :
    DPut H a v y (upd H a (hoD t (putK xs ks y))) := by
  cases t with
  | false =>
    obtain ⟨κ, hκ, rfl⟩ := Option.map_eq_some_iff.mp hk
    obtain rfl := keyK_rep hκ r
    refine .inl ⟨_, κ, h, rfl, by simpa using hz, ?_⟩
    rw [← put_head (ok rfl)]; rfl
  | true =>
    cases d <;> first | (cases hk; done) | skip
    obtain ⟨b, ys, rfl, h1, h2⟩ := r.tupE
    exact .inr ⟨xs, ks, b, h, rfl, by rw [e _ _ h1, keysK_rep hk h2], hz, rfl⟩
/-- x[k] = e, x a dict in slot i -/
def sPut (i : Nat) (B A : Fe) : Fs := fun ρ => (A ρ).bind fun a => match a with
  | .v _ d => ((ρ[i]?).join).bind fun w => match w with
    | (1, .dct t kvs) => (val B ρ).bind fun u => if kvs.length < big then (keyD t u.2).map fun ks => (.nx, ρ.set i (some (1, .dct t (putD kvs ks d)))) else none
    | _ => none
  | .r _ => none
theorem s_put {i : Nat} {x : Str} {p tpos : Pos} (hu : X.A.units + 1 < cLine) (he : OkE X e A) (hb : OkE X b B) (hN : X.N[i]? = some x := by rfl) (hv : Vis X.env.scope x := by first | exact Or.inl rfl | exact Or.inr (Or.inl rfl) | exact Or.inr (Or.inr rfl)) (hd : (x == ("__debug__" : Str)) = false := by decide) (hcd : (x == ("__classdict__" : Str)) = false := by decide)
    (hs : swapsWith e (some (.Subscript (.Name x p) b tpos)) pos.line X.env = pure false := by rfl) : OkS X (.Assign [.Subscript (.Name x p) b tpos] e pos) (sPut i B A) := PS.imp (ps_dput hu (pe_var hN hv hd hcd) hb he hs) fun D σ H ⟨G0, ρ, fl, ρ', I, hf, post⟩ => by
  obtain ⟨a, ha, hf⟩ := Option.bind_eq_some_iff.mp hf
  cases a with
  | r j => cases hf
  | v j d =>
    obtain ⟨w, hw, hf⟩ := Option.bind_eq_some_iff.mp hf
    split at hf
    · rename_i t kvs
      obtain ⟨u, hu, hf⟩ := Option.bind_eq_some_iff.mp hf
      split at hf
      · rename_i hz
        obtain ⟨ks, hks, hf⟩ := Option.map_eq_some_iff.mp hf
        cases hf
        obtain ⟨a2, ha2, hg2⟩ := val_some hu
        have hρ := join_some hw
        refine ⟨G0, ρ, [], _, I, ha, fun y H1 I1 => ?_⟩
        have hx : ∃ p, σ[i]? = some (some (.ref p)) := by
          obtain ⟨G, F1, F2, J⟩ := I1
          obtain ⟨v, Fi, h1, h2, _⟩ := J.sl.at hρ
          obtain ⟨p, xs, rfl, h3, _⟩ := RO.dct1 J.ex (Nat.le_refl 1) h2
          exact ⟨p, h1⟩
        obtain ⟨p, hp⟩ := hx
        refine ⟨.ref p, hp, G0, ρ, [(y, .v j d)], a2, I1, ha2, fun z H2 I2 => ?_⟩
        obtain ⟨G, F1, F2, J⟩ := I2
        obtain ⟨Fz, rz⟩ := J.top hg2
        obtain ⟨F3, _, J1⟩ := J.drop
        obtain ⟨G2, F4, J2, e2, r2⟩ := J1.freeze
        have rz' : ∃ Fz', RO X.K G2 H2 u.1 u.2 z Fz' := ⟨Fz, RO.mono e2 _ _ _ Fz (fun _ _ => rfl) rz⟩
        obtain ⟨Fz', rz'⟩ := rz'
        obtain ⟨v, Fa, Fi, Fb, e1, h1, h2, h3⟩ := J2.slot hρ
        rw [hp] at h1
        cases h1
        obtain ⟨p', xs, F', q0, h4, hok, rfl, h5⟩ := h2
        cases q0
        subst e1
        obtain ⟨h6, h7⟩ := ROk.to_F h5
        subst h7
        refine ⟨p, _, rfl, dput_rep J2.ex h4 hok hks rz' (by rw [h6.len]; exact big_lt hz), post _ _ ?_⟩
        exact SI.upd (w := (1, .dct t kvs)) (F'' := []) J2 (isOwn_hoD t _) h3 List.nodup_nil (fun b hb => by cases hb) ⟨p, _, [], rfl, upd_same, put_ok hks hok, rfl, ROk.of_F (put_rep h6 r2)⟩
      · cases hf
    · cases hf
end
end Pv
set_option Elab.async false
set_option linter.all false
set_option maxRecDepth 100000
/-! P12: builtins -/
namespace Pv
open PySem PySem.Spec PyProof.Rows L2
section
variable {X : Cx} {K : PySem.W.Frag} {G0 G G1 G' H H' : Hp} {σ : L2.St} {ρ : Env} {ws : List (V × Arg)} {F F1 F2 : List Addr} {e a b c tg : Expr} {es : List Expr} {pos : Pos} {A B C : Fe}
/-! ### len, int, abs -/
theorem RO.seq {k : Nat} {d : D} {v : V} {bb : Bool} {ds : List D} (e : Same G H) (h : seqD d = some (bb, ds)) (r : RO K G H k d v F) : ∃ a n, v = .ref a ∧ n = ds.length ∧ ((∃ xs, SqL K H a xs ∧ n = xs.length) ∨ ∃ xs, SqT K H a xs ∧ n = xs.length) := by
  cases d <;> first | (cases h; done) | skip
  · cases h; obtain ⟨a, xs, h1, h2, h3⟩ := r.tup; exact ⟨a, _, h1, rfl, .inr ⟨xs, same_t e h2, h3.len.symm⟩⟩
  · cases h; obtain ⟨a, xs, h1, h2, h3⟩ := r.lstN e; exact ⟨a, _, h1, rfl, .inl ⟨xs, SqL.of h2, h3.symm⟩⟩
  · cases h; obtain ⟨a, xs, h1, h2, h3⟩ := r.ktp; exact ⟨a, _, h1, rfl, .inr ⟨xs, same_t e h2.sq, h3.len.symm⟩⟩
def gLen : W → Option W
  | (_, .str z) => if z.length ≤ big then some (0, .int (z.length : Nat)) else none
  | (_, .scr ns) => some (0, .int (ns.length : Nat))
  | (_, d) => (seqD d).map fun p => (0, .int (p.2.length : Nat))
theorem g_len : Op1 K (fun x H Q => ∃ y n, [x] = [y] ∧ LenV K y H n ∧ Q (.int n) H) gLen := by
  intro G H u x Fu w e ru hw
  unfold gLen at hw; split at hw
  · split at hw
    · rename_i hz
      cases hw
      obtain rfl := ru.str
      exact Res.pure (v := .int _) e rfl fun Q q => ⟨_, _, rfl, ⟨big_line hz, rfl⟩, q⟩
    · cases hw
  · cases hw
    obtain ⟨a, rfl, h⟩ := ru.scr
    exact Res.pure (v := .int _) e rfl fun Q q => ⟨_, _, rfl, .inl ⟨_, same_l e h, by simp⟩, q⟩
  · obtain ⟨⟨bb, ds⟩, hp, rfl⟩ := Option.map_eq_some_iff.mp hw
    obtain ⟨a, n, rfl, rfl, h⟩ := ru.seq e hp
    exact Res.pure (v := .int _) e rfl fun Q q => ⟨_, _, rfl, h, q⟩
theorem e_len {p : Pos} (hg : Gl X "len") (hm : X.mg "len" = none) (ha : OkE X a A) (hs : starEach (a :: []) X.env = (false, eval a X.env) :: starEach [] X.env := by rfl) : OkE X (.Call (.Name "len" p) [a] [] pos) (pCall (on1 gLen) (aCons A aNil)) :=
  e_bi call_len (opN_1 g_len) hg hm (by rfl) (a_cons ha a_nil hs) (hs := hs)
def gInt : W → Option W
  | (_, .int i) => some (0, .int i)
  | (_, .bl b) => some (0, .int (if b then 1 else 0))
  | _ => none
theorem g_int : Op1 K (fun x H Q => (∃ i, [x] = [.int i] ∧ Q (.int i) H) ∨ ∃ k, [x] = [.bl k] ∧ Q (.int (if k then 1 else 0)) H) gInt := by
  intro G H u x Fu w e ru hw
  unfold gInt at hw; split at hw
  · cases hw
    obtain rfl := ru.int
    exact Res.pure (v := .int _) e rfl fun Q q => .inl ⟨_, rfl, q⟩
  · cases hw
    obtain rfl := ru.bl
    exact Res.pure (v := .int _) e rfl fun Q q => .inr ⟨_, rfl, q⟩
  · cases hw
theorem e_intF {p : Pos} (hg : Gl X "int") (hm : X.mg "int" = none) (ha : OkE X a A) (hs : starEach (a :: []) X.env = (false, eval a X.env) :: starEach [] X.env := by rfl) : OkE X (.Call (.Name "int" p) [a] [] pos) (pCall (on1 gInt) (aCons A aNil)) :=
  e_ty call_int1 (opN_1 g_int) hg hm (by rfl) (a_cons ha a_nil hs) (hs := hs)
def gAbs : W → Option W
  | (_, .int i) => some (0, .int (if i < 0 then -i else i))
  | _ => none
theorem g_abs : Op1 K (fun x H Q => ∃ i, [x] = [.int i] ∧ Q (.int (if i < 0 then -i else i)) H) gAbs := by
  intro G H u x Fu w e ru hw
  unfold gAbs at hw; split at hw
  · cases hw
    obtain rfl := ru.int
    exact Res.pure (v := .int _) e rfl fun Q q => ⟨_, rfl, q⟩
  · cases hw
theorem e_abs {p : Pos} (hg : Gl X "abs") (hm : X.mg "abs" = none) (ha : OkE X a A) (hs : starEach (a :: []) X.env = (false, eval a X.env) :: starEach [] X.env := by rfl) : OkE X (.Call (.Name "abs" p) [a] [] pos) (pCall (on1 gAbs) (aCons A aNil)) :=
  e_bi call_abs (opN_1 g_abs) hg hm (by rfl) (a_cons ha a_nil hs) (hs := hs)
/-! ### isinstance -/
inductive Ty where | non | bl | int | str | tup | lst | dct deriving DecidableEq
def Ty.name : Ty → String
  | .non => "NoneType" | .bl => "bool" | .int => "int" | .str => "str" | .tup => "tuple" | .lst => "list" | .dct => "dict"
def tyD : D → Ty
  | .non => .non | .bl _ => .bl | .int _ => .int | .str _ => .str | .tup _ => .tup | .ktp _ => .tup | .lst _ => .lst | .scr _ => .lst | .dct _ _ => .dct
def isiB (t c : Ty) : Bool := t == c || (t == .bl && c == .int)
theorem isi_K (t c : Ty) : PySem.W.kitOne K (.type t.name) (.type c.name) = some (isiB t c) := by
  cases t <;> cases c <;> rfl
theorem TyX.lstR {x : Addr} {xs : List V} (h : SqL K H x xs) : TyX K H (.ref x) (.type "list") := by
  rcases h with (h | ⟨o, h⟩) | ⟨o, its, n, h1, h2, _⟩
  · exact .base (.lst h)
  · exact .base (.frz h)
  · exact .kList h1 h2
theorem TyX.tupR {x : Addr} {xs : List V} (h : SqT K H x xs) : TyX K H (.ref x) (.type "tuple") := by
  rcases h with (h | ⟨o, h⟩) | ⟨o, its, n, h1, h2, _⟩
  · exact .base (.tup h)
  · exact .fTuple h
  · exact .kTuple h1 h2
/-- a dict of tuple keys, locked: not told -/
theorem TyX.of {k : Nat} {d : D} {v : V} (e : Same G H) (hd : tyD d ≠ .dct) (r : RO K G H k d v F) : TyX K H v (.type (tyD d).name) := by
  cases d with
  | non => obtain rfl := r.non; exact .base .non
  | bl b => obtain rfl := r.bl; exact .base (.bl b)
  | int b => obtain rfl := r.int; exact .base (.int b)
  | str b => obtain rfl := r.str; exact .base (.str b)
  | tup ds => obtain ⟨a, xs, rfl, h, _⟩ := r.tup; exact TyX.tupR (same_t e h)
  | ktp ds => obtain ⟨a, xs, rfl, h, _⟩ := r.ktp; exact TyX.tupR (same_t e h.sq)
  | scr ns => obtain ⟨a, rfl, h⟩ := r.scr; exact TyX.lstR (same_l e h)
  | lst ds => obtain ⟨a, xs, rfl, h, _⟩ := r.lstN e; exact TyX.lstR (SqL.of h)
  | dct t ds => exact absurd rfl hd
def gIsi (c : Ty) : W → Option W := fun w => if tyD w.2 ≠ .dct then some (0, .bl (isiB (tyD w.2) c)) else none
def pIsi (c : Ty) (A : Fe) : Fe := pOp1 (gIsi c) A
theorem e_isi {p p2 : Pos} {cn : Str} (c : Ty) (hg : Gl X "isinstance") (hm : X.mg "isinstance" = none) (hg2 : Gl X cn) (hm2 : X.mg cn = none) (ha : OkE X a A) (hv : bootBuiltins cn = some (.type c.name) := by rfl) (hn : cn ≠ "__name__" := by decide) (hd : (cn == ("__debug__" : Str)) = false := by decide)
    (hs : starEach (a :: [.Name cn p2]) X.env = (false, eval a X.env) :: starEach [.Name cn p2] X.env := by rfl) : OkE X (.Call (.Name "isinstance" p) [a, .Name cn p2] [] pos) (pIsi c A) :=
  PE.imp (pe_callB call_isi hg hm (by rfl) (pa_cons ha (pa_cons (pe_bltn hg2 hm2 hv (show RelV (.ty c.name) (.type c.name) from rfl) hn hd) pa_nil (by rfl)) hs) (by decide) (by decide) hs (by rfl)) fun σ H Q h => by
  refine op1_imp (r := fun x H Q => rIsi X.K [x, .ty c.name] H Q) ?_ σ H Q h
  intro G H u x Fu w e ru hw
  unfold gIsi at hw
  split at hw
  · rename_i hne
    cases hw
    exact Res.pure (v := .bl _) e rfl fun Q q => ⟨_, _, _, _, _, rfl, ClsV.ty _, TyX.of e hne ru, isi_K _ _, q⟩
  · cases hw
/-! ### flat data; in -/
def flatD : D → Bool
  | .non => true | .bl _ => true | .int _ => true | .str _ => true | _ => false
def eqF : D → D → Bool
  | .non, .non => true
  | .bl a, .bl b => a == b
  | .bl a, .int b => (if a then 1 else 0) == b
  | .int a, .bl b => a == (if b then 1 else 0)
  | .int a, .int b => a == b
  | .str a, .str b => a == b
  | _, _ => false
theorem flat_rep {d : D} {v : V} (h : flatD d = true) (r : RepF K G d v) : flatV v = true := by
  cases d <;> first | (cases h; done) | (rw [show v = _ from r]; rfl)
theorem flats_rep : ∀ {ds : List D} {xs : List V}, ds.all flatD = true → RepFs K G ds xs → xs.all flatV = true
  | [], _, _, r => by rw [show _ = [] from r]; rfl
  | d :: ds, _, h, ⟨x, r, h1, h2, h3⟩ => by
    rw [List.all_cons, Bool.and_eq_true] at h
    rw [h1, List.all_cons, flat_rep h.1 h2, flats_rep h.2 h3]; rfl
theorem eqF_rep {d c : D} {v y : V} (h : flatD d = true) (h' : flatD c = true) (r : RepF K G d v) (r' : RepF K G c y) : eqV v y = eqF d c := by
  cases d <;> first | (cases h; done) | skip
  all_goals (cases c <;> first | (cases h'; done) | (rw [show v = _ from r, show y = _ from r']; rfl))
def inF (d : D) (ds : List D) : Bool := ds.any fun c => eqF c d
theorem inF_rep {d : D} {v : V} (h : flatD d = true) (r : RepF K G d v) : ∀ {ds : List D} {xs : List V}, ds.all flatD = true → RepFs K G ds xs → inV v xs = inF d ds
  | [], _, _, q => by rw [show _ = [] from q]; rfl
  | c :: ds, _, hd, ⟨x, xs, h1, h2, h3⟩ => by
    rw [List.all_cons, Bool.and_eq_true] at hd
    have := inF_rep h r hd.2 h3
    unfold inV inF at this ⊢
    rw [h1, List.any_cons, List.any_cons, this, eqF_rep hd.1 h h2 r]
def gIn (neg : Bool) : W → W → Option W
  | (_, d), (k, .lst ds) => if k ≤ 1 ∧ flatD d = true ∧ ds.all flatD = true then some (0, .bl (neg != inF d ds)) else none
  | (_, d), (_, .tup ds) => if flatD d = true ∧ ds.all flatD = true then some (0, .bl (neg != inF d ds)) else none
  | (_, d), (_, .ktp ds) => if flatD d = true ∧ ds.all flatD = true then some (0, .bl (neg != inF d ds)) else none
  | _, _ => none
theorem flat_plain {d : D} (h : flatD d = true) : isBox d = false := by cases d <;> first | rfl | cases h
theorem g_in (neg : Bool) : Op2 K (rIn K neg) (gIn neg) := by
  intro G H u v x y Fu Fv w e ru rv hw
  have key : ∀ (d : D) (ds : List D) (p : Addr) (xs : List V), u.2 = d → y = .ref p → (SqL K H p xs ∨ SqT K H p xs) → RepFs K G ds xs → flatD d = true → ds.all flatD = true → w = (0, .bl (neg != inF d ds)) → Res K G H w (rIn K neg x y H) := by
    intro d ds p xs hd hy hq hr f1 f2 hw
    subst hd hy hw
    obtain ⟨r1, _⟩ := ru.plain (flat_plain f1)
    refine Res.pure (v := .bl (if neg then !inV x xs else inV x xs)) e ?_ fun Q q => ⟨p, xs, rfl, hq, flat_rep f1 r1, flats_rep f2 hr, q⟩
    show V.bl _ = V.bl _
    rw [inF_rep f1 r1 f2 hr]
    cases neg
    · rw [Bool.false_bne]; rfl
    · rw [Bool.true_bne]; rfl
  unfold gIn at hw; split at hw
  · split at hw
    · rename_i ok
      cases hw
      obtain ⟨a, xs, h1, h2, h3⟩ := rv.lst1 e ok.1
      exact key _ _ a xs rfl h1 (.inl (SqL.of h2)) h3 ok.2.1 ok.2.2 rfl
    · cases hw
  · split at hw
    · rename_i ok
      cases hw
      obtain ⟨a, xs, h1, h2, h3⟩ := rv.tup
      exact key _ _ a xs rfl h1 (.inr (same_t e h2)) h3 ok.1 ok.2 rfl
    · cases hw
  · split at hw
    · rename_i ok
      cases hw
      obtain ⟨a, xs, h1, h2, h3⟩ := rv.ktp
      exact key _ _ a xs rfl h1 (.inr (same_t e h2.sq)) h3 ok.1 ok.2 rfl
    · cases hw
  · cases hw
theorem e_in (ha : OkE X a A) (hb : OkE X b B) (hm : behindInMarks .In b = false := by rfl) : OkE X (.Compare a [.In] [b] pos) (pOp2 (gIn false) A B) := e_cmp op_in_seq (g_in false) ha hb hm
theorem e_notin (ha : OkE X a A) (hb : OkE X b B) (hm : behindInMarks .NotIn b = false := by rfl) : OkE X (.Compare a [.NotIn] [b] pos) (pOp2 (gIn true) A B) := e_cmp op_notIn_seq (g_in true) ha hb hm
/-! ### ints of a list or tuple: sum, min, max, sorted -/
def intsD : List D → Option (List Int)
  | [] => some []
  | .int i :: ds => (intsD ds).map fun r => i :: r
  | _ :: _ => none
theorem ints_rep : ∀ {ds : List D} {xs : List V} {ns : List Int}, intsD ds = some ns → RepFs K G ds xs → xs = ns.map V.int
  | [], _, _, h, r => by cases h; exact r
  | d :: ds, _, ns, h, ⟨x, r, h1, h2, h3⟩ => by
    cases d <;> first | (cases h; done) | skip
    obtain ⟨ms, hm, rfl⟩ := Option.map_eq_some_iff.mp h
    rw [h1, ints_rep hm h3, show x = _ from h2]; rfl
theorem sum_rawT {prog : Program} {w : World} {A : Around} {E : Value → Shared → Prop} {s : Shared} {l : Addr} {its : List Value} {ns : List Int} {Q : Value → Shared → Prop} (hh : A.handled = none) (hl : s.heap.IsTuple l its.toArray) (hi : IntsAre its ns)
    (h : ∀ h' tk t', (∀ b o, s.heap.get? b = some o → h'.get? b = some o) → Q (.int ns.sum t') { s with heap := h', toks := tk }) : wpAny (model prog w) A (call (.builtin "sum") [.ref l]) Q E s := by
  obtain ⟨xs, e⟩ := hi.allInts.items
  have hn : numsOf (intItems xs).toList = ns := by rw [← e]; exact hi.numsOf
  rw [nums_intItems] at hn
  rw [e] at hl
  refine PySem.W.ktm_sumG hh hl fun h' tk t' hk => ?_
  have := h h' tk t' hk
  rw [preSum_eq, List.take_of_length_le (by simp), hn]; exact this
def rSumT (K : PySem.W.Frag) : List V → Hp → VK → Prop := fun vs H Q => ∃ (a : Addr) (ns : List Int), vs = [V.ref a] ∧ (SqL K H a (ns.map V.int) ∨ SqT K H a (ns.map V.int)) ∧ Q (.int ns.sum) H
theorem cr_sumT (hc : X.calm = true) : CallR X (.builtin "sum") (rSumT X.K) := by
  intro pins s σ H vs us Q I r h
  obtain ⟨a, ns, rfl, hs | hs, q⟩ := h
  · exact cr_sum hc pins s σ H [.ref a] us Q I r ⟨a, ns, rfl, hs, q⟩
  · obtain ⟨its, rv, hl, _⟩ := I.tuple hs
    rw [Vals.ref1 r]
    exact sum_rawT (I.ok.hd hc) hl rv.ints fun h' tk t' hk => ⟨.int _, H, I.kept hk, ⟨_, rfl⟩, q⟩
/-- the items of a list (owned at most at its top) or tuple -/
def itemsD : W → Option (List D)
  | (k, .lst ds) => if k ≤ 1 then some ds else none
  | (_, .tup ds) => some ds
  | (_, .ktp ds) => some ds
  | _ => none
theorem items_rep {u : W} {x : V} {ds : List D} (e : Same G H) (h : itemsD u = some ds) (r : RO K G H u.1 u.2 x F) : ∃ a xs, x = .ref a ∧ (SqL K H a xs ∨ SqT K H a xs) ∧ RepFs K G ds xs := by
  unfold itemsD at h; split at h
  · split at h
    · rename_i hk
      cases h
      obtain ⟨a, xs, h1, h2, h3⟩ := r.lst1 e hk
      exact ⟨a, xs, h1, .inl (SqL.of h2), h3⟩
    · cases h
  · cases h; obtain ⟨a, xs, h1, h2, h3⟩ := r.tup; exact ⟨a, xs, h1, .inr (same_t e h2), h3⟩
  · cases h; obtain ⟨a, xs, h1, h2, h3⟩ := r.ktp; exact ⟨a, xs, h1, .inr (same_t e h2.sq), h3⟩
  · cases h
def gSum : W → Option W := fun u => (itemsD u).bind fun ds => (intsD ds).map fun ns => (0, .int ns.sum)
theorem g_sum : Op1 K (fun x H Q => rSumT K [x] H Q) gSum := by
  intro G H u x Fu w e ru hw
  obtain ⟨ds, hd, hw⟩ := Option.bind_eq_some_iff.mp hw
  obtain ⟨ns, hn, rfl⟩ := Option.map_eq_some_iff.mp hw
  obtain ⟨a, xs, rfl, h1, h2⟩ := items_rep e hd ru
  have := ints_rep hn h2
  subst this
  exact Res.pure (v := .int _) e rfl fun Q q => ⟨a, ns, rfl, h1, q⟩
theorem e_sum {p : Pos} (hc : X.calm = true) (hg : Gl X "sum") (hm : X.mg "sum" = none) (ha : OkE X a A) (hs : starEach (a :: []) X.env = (false, eval a X.env) :: starEach [] X.env := by rfl) : OkE X (.Call (.Name "sum" p) [a] [] pos) (pCall (on1 gSum) (aCons A aNil)) :=
  e_bi (cr_sumT hc) (opN_1 g_sum) hg hm (by rfl) (a_cons ha a_nil hs) (hs := hs)
def listD : W → Option (List D)
  | (k, .lst ds) => if k ≤ 1 then some ds else none
  | _ => none
theorem list_rep {u : W} {x : V} {ds : List D} (e : Same G H) (h : listD u = some ds) (r : RO K G H u.1 u.2 x F) : ∃ a xs, x = .ref a ∧ SqL K H a xs ∧ RepFs K G ds xs := by
  unfold listD at h; split at h
  · split at h
    · rename_i hk
      cases h
      obtain ⟨a, xs, h1, h2, h3⟩ := r.lst1 e hk
      exact ⟨a, xs, h1, SqL.of h2, h3⟩
    · cases h
  · cases h
def minI : Int → List Int → Int
  | m, [] => m
  | m, n :: ns => minI (if n < m then n else m) ns
def maxI : Int → List Int → Int
  | m, [] => m
  | m, n :: ns => maxI (if m < n then n else m) ns
theorem minI_spec : ∀ (m : Int) (ns : List Int), (minI m ns = m ∨ minI m ns ∈ ns) ∧ minI m ns ≤ m ∧ ∀ y ∈ ns, minI m ns ≤ y
  | m, [] => ⟨.inl rfl, Int.le_refl _, fun y h => by cases h⟩
  | m, n :: ns => by
    unfold minI
    obtain ⟨h1, h2, h3⟩ := minI_spec (if n < m then n else m) ns
    split at h1 <;> split at h2 <;> rename_i c c' <;> first | (exact absurd c c') | (exact absurd c' c) | skip
    · rw [if_pos c] at h3 ⊢
      refine ⟨.inr ?_, by omega, fun y hy => ?_⟩
      · rcases h1 with h1 | h1
        · rw [h1]; exact List.mem_cons_self
        · exact List.mem_cons_of_mem _ h1
      · rcases List.mem_cons.mp hy with rfl | hy
        · exact h2
        · exact h3 y hy
    · rw [if_neg c] at h3 ⊢
      refine ⟨?_, h2, fun y hy => ?_⟩
      · rcases h1 with h1 | h1
        · exact .inl h1
        · exact .inr (List.mem_cons_of_mem _ h1)
      · rcases List.mem_cons.mp hy with rfl | hy
        · omega
        · exact h3 y hy
theorem maxI_spec : ∀ (m : Int) (ns : List Int), (maxI m ns = m ∨ maxI m ns ∈ ns) ∧ m ≤ maxI m ns ∧ ∀ y ∈ ns, y ≤ maxI m ns
  | m, [] => ⟨.inl rfl, Int.le_refl _, fun y h => by cases h⟩
  | m, n :: ns => by
    unfold maxI
    obtain ⟨h1, h2, h3⟩ := maxI_spec (if m < n then n else m) ns
    split at h1 <;> split at h2 <;> rename_i c c' <;> first | (exact absurd c c') | (exact absurd c' c) | skip
    · rw [if_pos c] at h3 ⊢
      refine ⟨.inr ?_, by omega, fun y hy => ?_⟩
      · rcases h1 with h1 | h1
        · rw [h1]; exact List.mem_cons_self
        · exact List.mem_cons_of_mem _ h1
      · rcases List.mem_cons.mp hy with rfl | hy
        · exact h2
        · exact h3 y hy
    · rw [if_neg c] at h3 ⊢
      refine ⟨?_, h2, fun y hy => ?_⟩
      · rcases h1 with h1 | h1
        · exact .inl h1
        · exact .inr (List.mem_cons_of_mem _ h1)
      · rcases List.mem_cons.mp hy with rfl | hy
        · omega
        · exact h3 y hy
def gMin : W → Option W := fun u => (listD u).bind fun ds => (intsD ds).bind fun ns => match ns with
  | [] => none
  | n :: r => some (0, .int (minI n r))
def gMax : W → Option W := fun u => (listD u).bind fun ds => (intsD ds).bind fun ns => match ns with
  | [] => none
  | n :: r => some (0, .int (maxI n r))
theorem g_min : Op1 K (fun x H Q => rMin K [x] H Q) gMin := by
  intro G H u x Fu w e ru hw
  obtain ⟨ds, hd, hw⟩ := Option.bind_eq_some_iff.mp hw
  obtain ⟨ns, hn, hw⟩ := Option.bind_eq_some_iff.mp hw
  obtain ⟨a, xs, rfl, h1, h2⟩ := list_rep e hd ru
  have := ints_rep hn h2
  subst this
  cases ns with
  | nil => cases hw
  | cons n r =>
    cases hw
    obtain ⟨m1, m2, m3⟩ := minI_spec n r
    refine Res.pure (v := .int _) e rfl fun Q q => ⟨a, n :: r, rfl, h1, Nat.succ_pos _, fun m hm hle => ?_⟩
    have : m = minI n r := by
      apply Int.le_antisymm
      · rcases m1 with q | q
        · rw [q]; exact hle n List.mem_cons_self
        · exact hle _ (List.mem_cons_of_mem _ q)
      · rcases List.mem_cons.mp hm with rfl | q
        · exact m2
        · exact m3 m q
    rw [this]; exact q
theorem g_max : Op1 K (fun x H Q => rMax K [x] H Q) gMax := by
  intro G H u x Fu w e ru hw
  obtain ⟨ds, hd, hw⟩ := Option.bind_eq_some_iff.mp hw
  obtain ⟨ns, hn, hw⟩ := Option.bind_eq_some_iff.mp hw
  obtain ⟨a, xs, rfl, h1, h2⟩ := list_rep e hd ru
  have := ints_rep hn h2
  subst this
  cases ns with
  | nil => cases hw
  | cons n r =>
    cases hw
    obtain ⟨m1, m2, m3⟩ := maxI_spec n r
    refine Res.pure (v := .int _) e rfl fun Q q => ⟨a, n :: r, rfl, h1, Nat.succ_pos _, fun m hm hle => ?_⟩
    have : m = maxI n r := by
      apply Int.le_antisymm
      · rcases List.mem_cons.mp hm with rfl | q
        · exact m2
        · exact m3 m q
      · rcases m1 with q | q
        · rw [q]; exact hle n List.mem_cons_self
        · exact hle _ (List.mem_cons_of_mem _ q)
    rw [this]; exact q
theorem e_min {p : Pos} (hc : X.calm = true) (hg : Gl X "min") (hm : X.mg "min" = none) (ha : OkE X a A) (hs : starEach (a :: []) X.env = (false, eval a X.env) :: starEach [] X.env := by rfl) : OkE X (.Call (.Name "min" p) [a] [] pos) (pCall (on1 gMin) (aCons A aNil)) :=
  e_bi (cr_min hc) (opN_1 g_min) hg hm (by rfl) (a_cons ha a_nil hs) (hs := hs)
theorem e_max {p : Pos} (hc : X.calm = true) (hg : Gl X "max") (hm : X.mg "max" = none) (ha : OkE X a A) (hs : starEach (a :: []) X.env = (false, eval a X.env) :: starEach [] X.env := by rfl) : OkE X (.Call (.Name "max" p) [a] [] pos) (pCall (on1 gMax) (aCons A aNil)) :=
  e_bi (cr_max hc) (opN_1 g_max) hg hm (by rfl) (a_cons ha a_nil hs) (hs := hs)
/-- all(xs), any(xs) of bools -/
def blsD : List D → Option (List Bool)
  | [] => some []
  | .bl i :: ds => (blsD ds).map fun r => i :: r
  | _ :: _ => none
theorem bls_rep : ∀ {ds : List D} {xs : List V} {ns : List Bool}, blsD ds = some ns → RepFs K G ds xs → xs = ns.map V.bl
  | [], _, _, h, r => by cases h; exact r
  | d :: ds, _, ns, h, ⟨x, r, h1, h2, h3⟩ => by
    cases d <;> first | (cases h; done) | skip
    obtain ⟨ms, hm, rfl⟩ := Option.map_eq_some_iff.mp h
    rw [h1, bls_rep hm h3, show x = _ from h2]; rfl
def gAll : W → Option W := fun u => (listD u).bind fun ds => (blsD ds).map fun ns => (0, .bl (ns.all id))
def gAny : W → Option W := fun u => (listD u).bind fun ds => (blsD ds).map fun ns => (0, .bl (ns.any id))
theorem g_all : Op1 K (fun x H Q => rAll K [x] H Q) gAll := by
  intro G H u x Fu w e ru hw
  obtain ⟨ds, hd, hw⟩ := Option.bind_eq_some_iff.mp hw
  obtain ⟨ns, hn, rfl⟩ := Option.map_eq_some_iff.mp hw
  obtain ⟨a, xs, rfl, h1, h2⟩ := list_rep e hd ru
  have := bls_rep hn h2
  subst this
  exact Res.pure (v := .bl _) e rfl fun Q q => ⟨a, ns, rfl, h1, q⟩
theorem g_any : Op1 K (fun x H Q => rAny K [x] H Q) gAny := by
  intro G H u x Fu w e ru hw
  obtain ⟨ds, hd, hw⟩ := Option.bind_eq_some_iff.mp hw
  obtain ⟨ns, hn, rfl⟩ := Option.map_eq_some_iff.mp hw
  obtain ⟨a, xs, rfl, h1, h2⟩ := list_rep e hd ru
  have := bls_rep hn h2
  subst this
  exact Res.pure (v := .bl _) e rfl fun Q q => ⟨a, ns, rfl, h1, q⟩
theorem e_all {p : Pos} (hc : X.calm = true) (hg : Gl X "all") (hm : X.mg "all" = none) (ha : OkE X a A) (hs : starEach (a :: []) X.env = (false, eval a X.env) :: starEach [] X.env := by rfl) : OkE X (.Call (.Name "all" p) [a] [] pos) (pCall (on1 gAll) (aCons A aNil)) :=
  e_bi (cr_all hc) (opN_1 g_all) hg hm (by rfl) (a_cons ha a_nil hs) (hs := hs)
theorem e_any {p : Pos} (hc : X.calm = true) (hg : Gl X "any") (hm : X.mg "any" = none) (ha : OkE X a A) (hs : starEach (a :: []) X.env = (false, eval a X.env) :: starEach [] X.env := by rfl) : OkE X (.Call (.Name "any" p) [a] [] pos) (pCall (on1 gAny) (aCons A aNil)) :=
  e_bi (cr_any hc) (opN_1 g_any) hg hm (by rfl) (a_cons ha a_nil hs) (hs := hs)
/-! ### tuple(x), list(x) -/
def gTupOf : W → Option W
  | (k, .lst ds) => if k ≤ 1 then some (0, .tup ds) else none
  | (_, .tup ds) => some (0, .tup ds)
  | (_, .ktp ds) => some (0, .ktp ds)
  | _ => none
theorem g_tupOf : Op1 K (fun x H Q => ∃ p ys, [x] = [.ref p] ∧ ((SqL K H p ys ∧ ∀ l, H l = none → Q (.ref l) (upd H l (.tup ys))) ∨ (SqT K H p ys ∧ Q (.ref p) H))) gTupOf := by
  intro G H u x Fu w e ru hw
  unfold gTupOf at hw; split at hw
  · split at hw
    · rename_i hk
      cases hw
      obtain ⟨a, xs, rfl, h1, h2⟩ := ru.lst1 e hk
      exact Res.tup e h2 fun Q q => ⟨a, xs, rfl, .inl ⟨SqL.of h1, q⟩⟩
    · cases hw
  · cases hw
    obtain ⟨a, xs, rfl, h1, h2⟩ := ru.tupE
    exact Res.pure e ⟨a, xs, rfl, h1, h2⟩ fun Q q => ⟨a, xs, rfl, .inr ⟨SqT.of (e _ _ h1), q⟩⟩
  · cases hw
    obtain ⟨a, xs, rfl, h1, h2⟩ := ru.ktp
    exact Res.pure e ⟨a, xs, rfl, h1, h2⟩ fun Q q => ⟨a, xs, rfl, .inr ⟨same_t e h1.sq, q⟩⟩
  · cases hw
theorem e_tupOf {p : Pos} (hg : Gl X "tuple") (hm : X.mg "tuple" = none) (ha : OkE X a A) (hs : starEach (a :: []) X.env = (false, eval a X.env) :: starEach [] X.env := by rfl) : OkE X (.Call (.Name "tuple" p) [a] [] pos) (pCall (on1 gTupOf) (aCons A aNil)) :=
  e_ty call_tuple_of (opN_1 g_tupOf) hg hm (by rfl) (a_cons ha a_nil hs) (hs := hs)
def gLstOf : W → Option W := fun u => (itemsD u).map fun ds => (1, .lst ds)
theorem g_lstOf : Op1 K (fun x H Q => ∃ p ys, [x] = [.ref p] ∧ (SqL K H p ys ∨ SqT K H p ys) ∧ ∀ l, H l = none → Q (.ref l) (upd H l (.lst ys))) gLstOf := by
  intro G H u x Fu w e ru hw
  obtain ⟨ds, hd, rfl⟩ := Option.map_eq_some_iff.mp hw
  obtain ⟨a, xs, rfl, h1, h2⟩ := items_rep e hd ru
  exact Res.lst e h2 fun Q q => ⟨a, xs, rfl, h1, q⟩
theorem e_lstOf {p : Pos} (hg : Gl X "list") (hm : X.mg "list" = none) (ha : OkE X a A) (hs : starEach (a :: []) X.env = (false, eval a X.env) :: starEach [] X.env := by rfl) : OkE X (.Call (.Name "list" p) [a] [] pos) (pCall (on1 gLstOf) (aCons A aNil)) :=
  e_ty call_list_of (opN_1 g_lstOf) hg hm (by rfl) (a_cons ha a_nil hs) (hs := hs)
end
end Pv
set_option Elab.async false
set_option linter.all false
set_option maxRecDepth 100000
/-! P13: dicts that are walked; sorted -/
namespace Pv
open PySem PySem.Spec PyProof.Rows L2
theorem PE.or {X : Cx} {e : Expr} {t t' : TE} (h : PE X e t) (h' : PE X e t') : PE X e fun σ H Q => t σ H Q ∨ t' σ H Q := ⟨fun pins s σ H Q I q => q.elim (h.run pins s σ H Q I) (h'.run pins s σ H Q I)⟩
theorem PS.or {X : Cx} {st : Stmt} {t t' : TS} (h : PS X st t) (h' : PS X st t') : PS X st fun D σ H => t D σ H ∨ t' D σ H := ⟨fun pins s σ H D I q => q.elim (h.run pins s σ H D I) (h'.run pins s σ H D I)⟩
/-- the same data are read -/
structure Sim (G G' : Hp) : Prop where
  tup : ∀ a xs, G a = some (.tup xs) → G' a = some (.tup xs)
  lst : ∀ a xs, G a = some (.lst xs) → G' a = some (.lst xs)
  ft : ∀ a od xs, G a = some (.frz od (.tup xs)) → G' a = some (.frz od (.tup xs))
  rl : ∀ a xs, Rd G a (.lst xs) → Rd G' a (.lst xs)
  rd : ∀ a t xs, Rd G a (hoD t xs) → Rd G' a (hoD t xs)
section
variable {X : Cx} {K : PySem.W.Frag} {G0 G G1 G' H H' : Hp} {σ : L2.St} {ρ : Env} {ws : List (V × Arg)} {F F1 F2 : List Addr} {e a b c tg : Expr} {es : List Expr} {pos : Pos} {A B C : Fe} {T : Fb} {f : Fs} {body : List Stmt}
mutual
theorem RepF.sim (S : Sim G G') : ∀ (d : D) (v : V), RepF K G d v → RepF K G' d v
  | .non, _, h => h
  | .bl _, _, h => h
  | .int _, _, h => h
  | .str _, _, h => h
  | .tup ds, _, ⟨a, xs, h1, h2, h3⟩ => ⟨a, xs, h1, S.tup _ _ h2, RepFs.sim S ds xs h3⟩
  | .ktp ds, _, ⟨a, xs, h1, h2, h3⟩ => ⟨a, xs, h1, h2.elim .inl fun ⟨od, q1, q2⟩ => .inr ⟨od, q1, S.ft _ _ _ q2⟩, RepFs.sim S ds xs h3⟩
  | .lst ds, _, ⟨a, xs, h1, h2, h3⟩ => ⟨a, xs, h1, S.lst _ _ h2, RepFs.sim S ds xs h3⟩
  | .dct t ds, _, ⟨a, xs, h1, h2, h4, h3⟩ => ⟨a, xs, h1, S.rd _ _ _ h2, h4, RepFk.sim S ds xs h3⟩
  | .scr ns, _, ⟨a, h1, h2⟩ => ⟨a, h1, h2.elim (fun z => .inl (S.rl _ _ z)) .inr⟩
theorem RepFs.sim (S : Sim G G') : ∀ (ds : List D) (xs : List V), RepFs K G ds xs → RepFs K G' ds xs
  | [], _, h => h
  | d :: ds, _, ⟨x, r, h1, h2, h3⟩ => ⟨x, r, h1, RepF.sim S d x h2, RepFs.sim S ds r h3⟩
theorem RepFk.sim (S : Sim G G') : ∀ (ds : List (List Key × D)) (xs : List (List Key × V)), RepFk K G ds xs → RepFk K G' ds xs
  | [], _, h => h
  | (_, d) :: ds, _, ⟨x, r, h1, h2, h3⟩ => ⟨x, r, h1, RepF.sim S d x h2, RepFk.sim S ds r h3⟩
end
theorem RO.sim (S : Sim G G') : ∀ (k : Nat) (d : D) (v : V) (F : List Addr), (∀ a ∈ F, H' a = H a) → RO K G H k d v F → RO K G' H' k d v F
  | 0, d, v, _, _, h => ⟨RepF.sim S d v h.1, h.2⟩
  | k + 1, .lst ds, _, F, f, ⟨a, xs, F', h1, h2, h3, h4⟩ => ⟨a, xs, F', h1, by rw [f a (by rw [h3]; exact List.mem_cons_self), h2], h3,
      ROs.imp ds xs F' (fun d v F1 s => RO.sim S k d v F1 fun b hb => f b (by rw [h3]; exact List.mem_cons_of_mem _ (s b hb))) h4⟩
  | k + 1, .dct t ds, _, F, f, ⟨a, xs, F', h1, h2, h5, h3, h4⟩ => ⟨a, xs, F', h1, by rw [f a (by rw [h3]; exact List.mem_cons_self), h2], h5, h3,
      ROk.imp ds xs F' (fun d v F1 s => RO.sim S k d v F1 fun b hb => f b (by rw [h3]; exact List.mem_cons_of_mem _ (s b hb))) h4⟩
  | k + 1, .non, v, _, _, h => h
  | k + 1, .bl _, v, _, _, h => h
  | k + 1, .int _, v, _, _, h => h
  | k + 1, .str _, v, _, _, h => h
  | k + 1, .tup ds, v, _, _, h => ⟨RepF.sim S (.tup ds) v h.1, h.2⟩
  | k + 1, .scr ns, v, _, _, h => ⟨RepF.sim S (.scr ns) v h.1, h.2⟩
  | k + 1, .ktp ds, v, _, _, h => ⟨RepF.sim S (.ktp ds) v h.1, h.2⟩
theorem RSl.sim (S : Sim G G') : ∀ (σ : L2.St) (ρ : Env) (F : List Addr), (∀ a ∈ F, H' a = H a) → RSl K G H σ ρ F → RSl K G' H' σ ρ F
  | [], [], _, _, h => h
  | _ :: _, [], _, _, h => h
  | [], none :: ρ, F, f, h => RSl.sim S [] ρ F f h
  | [], some _ :: _, _, _, h => h
  | _ :: σ, none :: ρ, F, f, h => RSl.sim S σ ρ F f h
  | s :: σ, some w :: ρ, F, f, ⟨v, F1, F2, h1, h2, h3, h4⟩ => ⟨v, F1, F2, h1, h2, RO.sim S _ _ _ F1 (fun a ha => f a (by rw [h2]; exact List.mem_append_left _ ha)) h3,
      RSl.sim S σ ρ F2 (fun a ha => f a (by rw [h2]; exact List.mem_append_right _ ha)) h4⟩
theorem RWs.sim (S : Sim G G') : ∀ (ws : List (V × Arg)) (F : List Addr), (∀ a ∈ F, H' a = H a) → RWs K G H σ ρ ws F → RWs K G' H' σ ρ ws F
  | [], _, _, h => h
  | (x, .v k d) :: ws, F, f, ⟨F1, F2, h2, h3, h4⟩ => ⟨F1, F2, h2, RO.sim S _ _ _ F1 (fun a ha => f a (by rw [h2]; exact List.mem_append_left _ ha)) h3,
      RWs.sim S ws F2 (fun a ha => f a (by rw [h2]; exact List.mem_append_right _ ha)) h4⟩
  | (x, .r i) :: ws, F, f, ⟨h1, h2, h3⟩ => ⟨h1, h2, RWs.sim S ws F f h3⟩
theorem hoD_ne_tup {t : Bool} {xs : List (List Key × V)} {ys : List V} : hoD t xs ≠ .tup ys := by cases t <;> intro h <;> cases h
theorem hoD_ne_lst {t : Bool} {xs : List (List Key × V)} {ys : List V} : hoD t xs ≠ .lst ys := by cases t <;> intro h <;> cases h
theorem hoD_ne_frz {t : Bool} {xs : List (List Key × V)} {o : Obj} {u : HO} : hoD t xs ≠ .frz o u := by cases t <;> intro h <;> cases h
theorem Sim.lock {p : Addr} {t : Bool} {xs : List (List Key × V)} {od : Obj} (h : G p = some (hoD t xs)) : Sim G (upd G p (.frz od (hoD t xs))) where
  tup := fun a ys q => by
    by_cases e : a = p
    · subst e; rw [h] at q; exact absurd (Option.some.inj q) hoD_ne_tup
    · rw [upd_ne e]; exact q
  lst := fun a ys q => by
    by_cases e : a = p
    · subst e; rw [h] at q; exact absurd (Option.some.inj q) hoD_ne_lst
    · rw [upd_ne e]; exact q
  ft := fun a od ys q => by
    by_cases e : a = p
    · subst e; rw [h] at q; exact absurd (Option.some.inj q) hoD_ne_frz
    · rw [upd_ne e]; exact q
  rl := fun a ys q => by
    by_cases e : a = p
    · subst e
      rcases q with q | ⟨o, q⟩
      · rw [h] at q; exact absurd (Option.some.inj q) hoD_ne_lst
      · rw [h] at q; exact absurd (Option.some.inj q) hoD_ne_frz
    · unfold Rd; rw [upd_ne e]; exact q
  rd := fun a t' ys q => by
    by_cases e : a = p
    · subst e
      rcases q with q | ⟨o, q⟩
      · rw [h] at q
        rw [← Option.some.inj q]
        exact .inr ⟨od, upd_same⟩
      · rw [h] at q; exact absurd (Option.some.inj q) hoD_ne_frz
    · unfold Rd; rw [upd_ne e]; exact q
theorem Sim.unlock {p : Addr} {t : Bool} {xs : List (List Key × V)} {od : Obj} (h : G p = some (.frz od (hoD t xs))) : Sim G (upd G p (hoD t xs)) where
  tup := fun a ys q => by
    by_cases e : a = p
    · subst e; rw [h] at q; cases q
    · rw [upd_ne e]; exact q
  lst := fun a ys q => by
    by_cases e : a = p
    · subst e; rw [h] at q; cases q
    · rw [upd_ne e]; exact q
  ft := fun a od ys q => by
    by_cases e : a = p
    · subst e
      rw [h] at q
      have := Option.some.inj q
      injection this with _ this
      exact absurd this hoD_ne_tup
    · rw [upd_ne e]; exact q
  rl := fun a ys q => by
    by_cases e : a = p
    · subst e
      rcases q with q | ⟨o, q⟩
      · rw [h] at q; cases q
      · rw [h] at q
        have := Option.some.inj q
        injection this with _ this
        exact absurd this hoD_ne_lst
    · unfold Rd; rw [upd_ne e]; exact q
  rd := fun a t' ys q => by
    by_cases e : a = p
    · subst e
      rcases q with q | ⟨o, q⟩
      · rw [h] at q
        exact absurd (Option.some.inj q).symm hoD_ne_frz
      · rw [h] at q
        have := Option.some.inj q
        injection this with _ this
        rw [this]
        exact .inl upd_same
    · unfold Rd; rw [upd_ne e]; exact q
theorem Si.lock {p : Addr} {t : Bool} {xs : List (List Key × V)} (I : Si K G0 σ ρ ws H G F1 F2) (h : G p = some (hoD t xs)) (od : Obj) : Si K (upd G p (.frz od (hoD t xs))) σ ρ ws (upd H p (.frz od (hoD t xs))) (upd G p (.frz od (hoD t xs))) F1 F2 := by
  have ne : ∀ a, a ∈ F1 ++ F2 → a ≠ p := fun a ha e => by
    subst e
    have := I.fr a ha
    rw [h] at this; cases this
  refine ⟨Same.refl _, fun b o q => ?_, RSl.sim (Sim.lock h) _ _ _ (fun a ha => upd_ne (ne a (List.mem_append_left _ ha))) I.sl, RWs.sim (Sim.lock h) _ _ (fun a ha => upd_ne (ne a (List.mem_append_right _ ha))) I.wv, I.nd, fun a ha => by rw [upd_ne (ne a ha)]; exact I.fr a ha, fun b o q1 q2 => ?_, I.ln⟩
  · by_cases e : b = p
    · subst e; rw [upd_same] at q ⊢; exact q
    · rw [upd_ne e] at q ⊢; exact I.ex b o q
  · by_cases e : b = p
    · subst e; rw [upd_same] at q1 ⊢; exact q1
    · rw [upd_ne e] at q1 ⊢; exact I.tu b o q1 q2
theorem Si.unlock {p : Addr} {t : Bool} {xs : List (List Key × V)} {od : Obj} (I : Si K G1 σ ρ ws H G F1 F2) (h1 : G1 p = some (.frz od (hoD t xs))) (h0 : ∀ b o, G0 b = some o → b = p ∧ o = hoD t xs ∨ b ≠ p ∧ G1 b = some o) :
    Si K G0 σ ρ ws (upd H p (hoD t xs)) (upd G p (hoD t xs)) F1 F2 := by
  have h : G p = some (.frz od (hoD t xs)) := I.ex0 _ _ h1
  have ne : ∀ a, a ∈ F1 ++ F2 → a ≠ p := fun a ha e => by
    subst e
    have := I.fr a ha
    rw [h] at this; cases this
  refine ⟨fun b o q => ?_, fun b o q => ?_, RSl.sim (Sim.unlock h) _ _ _ (fun a ha => upd_ne (ne a (List.mem_append_left _ ha))) I.sl, RWs.sim (Sim.unlock h) _ _ (fun a ha => upd_ne (ne a (List.mem_append_right _ ha))) I.wv, I.nd, fun a ha => by rw [upd_ne (ne a ha)]; exact I.fr a ha, fun b o q1 q2 => ?_, I.ln⟩
  · rcases h0 b o q with ⟨e1, e2⟩ | ⟨e1, e2⟩
    · subst e1 e2; exact upd_same
    · rw [upd_ne e1]; exact I.ex0 b o e2
  · by_cases e : b = p
    · subst e; rw [upd_same] at q ⊢; exact q
    · rw [upd_ne e] at q ⊢; exact I.ex b o q
  · by_cases e : b = p
    · subst e; rw [upd_same] at q1; cases q1; exact absurd (isOwn_hoD t xs) q2
    · rw [upd_ne e] at q1 ⊢; exact I.tu b o q1 q2
/-- the dict in slot i is locked -/
def LockAt (K : PySem.W.Frag) (i : Nat) (G : Hp) (σ : L2.St) (ρ : Env) : Prop := ∃ p od t xs kvs, σ[i]? = some (some (.ref p)) ∧ ρ[i]? = some (some (0, .dct t kvs)) ∧ G p = some (.frz od (hoD t xs)) ∧ keysOk t xs ∧ RepFk K G kvs xs
def tEZ (K : PySem.W.Frag) (Z : Hp → L2.St → Env → Prop) (f : Fe) : TE := fun σ H Q => ∃ G0 ρ ws a, SI K G0 σ ρ ws H ∧ Z G0 σ ρ ∧ f ρ = some a ∧ ∀ v H', SI K G0 σ ρ ((v, a) :: ws) H' → Q v H'
def tIcZ (K : PySem.W.Frag) (Z : Hp → L2.St → Env → Prop) (f : Fit) : L2.TI := fun σ H R => ∃ G0 ρ ws ds, SI K G0 σ ρ ws H ∧ Z G0 σ ρ ∧ f ρ = some ds ∧ ∀ J H' G1, Same G0 G1 → SI K G1 σ ρ ws H' → Items K J ds (fun G H => ∃ ws' F1 F2, Si K G1 σ ρ ws' H G F1 F2) → R J H'
def tIZ (K : PySem.W.Frag) (Z : Hp → L2.St → Env → Prop) (f : Fit) : L2.TI := fun σ H R => ∃ G0 ρ ds, SI K G0 σ ρ [] H ∧ Z G0 σ ρ ∧ f ρ = some ds ∧ ∀ J H' G1, Same G0 G1 → SI K G1 σ ρ [] H' → Items K J ds (fun G H => Same G1 G ∧ Same G H ∧ ∀ b o, H b = some o → ¬ isOwn o → G b = some o) → R J H'
/-- what a locked slot allows, the lock laid and taken off -/
theorem lockE_imp {i : Nat} {σ : L2.St} {H : Hp} {Q : VK} {f : Fe} (hs : ∀ ρ a, f ρ = some a → ∃ t kvs, ρ[i]? = some (some (0, .dct t kvs))) (h : tE K f σ H Q) : tLockE (tEZ K (LockAt K i) f) σ H Q ∨ tEZ K (LockAt K i) f σ H Q := by
  obtain ⟨G0, ρ, ws, a, ⟨G, F1, F2, J⟩, hf, q⟩ := h
  obtain ⟨t, kvs, hρ⟩ := hs ρ a hf
  obtain ⟨v, Fi, h1, ⟨h2, _⟩, _⟩ := J.sl.at hρ
  obtain ⟨p, xs, rfl, hr, ok, rk⟩ := h2
  rcases hr with hr | ⟨od, hr⟩
  · refine .inl ⟨p, hoD t xs, J.ex _ _ hr, by cases t <;> trivial, fun od => ⟨upd G p (.frz od (hoD t xs)), ρ, ws, a, (J.lock hr od).SI, ⟨p, od, t, xs, kvs, h1, hρ, upd_same, ok, RepFk.sim (Sim.lock hr) _ _ rk⟩, hf, fun v H' I' => ?_⟩⟩
    obtain ⟨G', F3, F4, J'⟩ := I'
    refine ⟨J'.ex _ _ (J'.ex0 _ _ upd_same), q v _ (J'.unlock upd_same fun b o q => ?_).SI⟩
    by_cases e : b = p
    · subst e
      have := J.ex0 _ _ q
      rw [hr] at this
      exact .inl ⟨rfl, (Option.some.inj this).symm⟩
    · exact .inr ⟨e, by rw [upd_ne e]; exact J.ex0 _ _ q⟩
  · exact .inr ⟨G, ρ, ws, a, J.up, ⟨p, od, t, xs, kvs, h1, hρ, hr, ok, rk⟩, hf, fun v H' I' => q v H' (I'.base J.ex0)⟩
def kD : Key → D
  | .inl i => .int i
  | .inr s => .str s
def keyDat : Bool → List Key → D
  | false, ks => kD (ks.headD (.inl 0))
  | true, ks => .tup (ks.map kD)
theorem kD_rep (k : Key) : RepF K G (kD k) (kV k) := by cases k <;> exact rfl
theorem kDs_rep : ∀ ks : List Key, RepFs K G (ks.map kD) (ks.map kV)
  | [] => rfl
  | k :: ks => ⟨_, _, rfl, kD_rep k, kDs_rep ks⟩
def iKeysF (i : Nat) : Fit := fun ρ => match (ρ[i]?).join with
  | some (0, .dct t kvs) => some (kvs.map fun p => keyDat t p.1)
  | _ => none
theorem RepFk.key : ∀ {kvs : List (List Key × D)} {xs : List (List Key × V)} {i : Nat} {k : List Key} {v : V}, RepFk K G kvs xs → xs[i]? = some (k, v) → ∃ d, kvs[i]? = some (k, d)
  | [], _, _, _, _, h, e => by rw [show _ = [] from h] at e; simp at e
  | (k', d') :: r, _, 0, k, v, ⟨x, xs, h1, h2, h3⟩, e => by subst h1; simp at e; exact ⟨d', by rw [e.1]; rfl⟩
  | (k', d') :: r, _, i + 1, k, v, ⟨x, xs, h1, h2, h3⟩, e => by
    subst h1
    obtain ⟨d, hd⟩ := RepFk.key h3 (by simpa using e)
    exact ⟨d, by simpa using hd⟩
def itKeys : Bool → Addr → Obj → List (List Key × V) → It
  | false, p, od, xs => Itk p od (xs.map fun p => (p.1.headD (.inl 0), p.2))
  | true, p, od, xs => Itkt p od xs
theorem Items.keys {p : Addr} {od : Obj} {t : Bool} {xs : List (List Key × V)} {kvs : List (List Key × D)} (h : G1 p = some (.frz od (hoD t xs))) (ok : keysOk t xs) (rk : RepFk K G1 kvs xs) :
    Items K (itKeys t p od xs) (kvs.map fun p => keyDat t p.1) (fun G H => Same G1 G ∧ Same G H ∧ ∀ b o, H b = some o → ¬ isOwn o → G b = some o) := by
  have hl := rk.len
  cases t with
  | false =>
    refine ⟨fun i G H hi ⟨e1, e2, _⟩ => ⟨e2 _ _ (e1 _ _ h), by simpa [hl] using hi⟩, fun G H ⟨e1, e2, _⟩ => ⟨e2 _ _ (e1 _ _ h), by simp [hl]⟩, fun i G H x H' hi ⟨e1, e2, _⟩ ⟨hy, k, v, hk, hx⟩ => ?_⟩
    subst hy hx
    rw [List.getElem?_map] at hk
    obtain ⟨⟨ks, v'⟩, hq, he⟩ := Option.map_eq_some_iff.mp hk
    cases he
    obtain ⟨d, hd⟩ := rk.key hq
    refine ⟨G, kD (ks.headD (.inl 0)), Grow.refl e2, by rw [List.getElem?_map, hd]; rfl, kD_rep _⟩
  | true =>
    refine ⟨fun i G H hi ⟨e1, e2, _⟩ => ⟨e2 _ _ (e1 _ _ h), by simpa [hl] using hi⟩, fun G H ⟨e1, e2, _⟩ => ⟨e2 _ _ (e1 _ _ h), by simp [hl]⟩, fun i G H x H' hi ⟨e1, e2, e3⟩ ⟨hy, k, v, q, hk, hx, hq⟩ => ?_⟩
    subst hy hx
    obtain ⟨d, hd⟩ := rk.key hk
    exact ⟨G, .tup (k.map kD), Grow.refl e2, by rw [List.getElem?_map, hd]; rfl, q, _, rfl, e3 _ _ hq (fun z => z), kDs_rep k⟩
theorem keys_core {σ : L2.St} {H : Hp} {i : Nat} {p : Addr} {od : Obj} {t : Bool} {xs : List (List Key × V)} {R : It → Hp → Prop} (e : Same G1 H) (h : G1 p = some (.frz od (hoD t xs))) (h1 : σ[i]? = some (some (.ref p)))
    (q : R (itKeys t p od xs) H) : iKeys (tVar i) σ H R := by
  refine ⟨.ref p, h1, p, od, rfl, ?_⟩
  cases t with
  | false => exact .inl ⟨_, e _ _ h, q⟩
  | true => exact .inr ⟨_, e _ _ h, q⟩
theorem c_keys {i : Nat} (he : PE X e (tVar i)) : PI X tg e (tIcZ X.K (LockAt X.K i) (iKeysF i)) := PI.imp (pi_keys he) fun σ H R ⟨G0, ρ, ws, ds, I, ⟨p, od, t, xs, kvs, h1, hρ, hg, ok, rk⟩, hf, q⟩ => by
  obtain ⟨G, F1, F2, J⟩ := I
  unfold iKeysF at hf
  rw [hρ] at hf
  cases hf
  refine keys_core (t := t) (xs := xs) (J.ex0.trans J.ex) hg h1 (q (itKeys t p od xs) H G0 (Same.refl _) J.SI ((Items.keys hg ok rk).mono fun G H ⟨_, _, _, I⟩ => ⟨I.ex0, I.ex, I.tu⟩))
theorem i_keys {i : Nat} (he : PE X e (tVar i)) : PI X tg e (tIZ X.K (LockAt X.K i) (iKeysF i)) := PI.imp (pi_keys he) fun σ H R ⟨G0, ρ, ds, I, ⟨p, od, t, xs, kvs, h1, hρ, hg, ok, rk⟩, hf, q⟩ => by
  obtain ⟨G, F1, F2, J⟩ := I
  unfold iKeysF at hf
  rw [hρ] at hf
  cases hf
  exact keys_core (t := t) (xs := xs) (J.ex0.trans J.ex) hg h1 (q (itKeys t p od xs) H G0 (Same.refl _) J.SI (Items.keys hg ok rk))
theorem lcZ_imp {Z : Hp → L2.St → Env → Prop} {j : Nat} {it : Fit} {t : Tg} {vs : List Nat} (hsub : ∀ i ∈ slotsT t, i ∈ vs) (σ : L2.St) (H : Hp) (Q : VK) (h : tEZ K Z (pLc j it t vs T A) σ H Q) : tLc (tIcZ K Z it) (tG K t) (tT K T) (tE K A) vs σ H Q := by
  obtain ⟨G0, ρ, ws, a, I, hZ, hf, q⟩ := h
  unfold pLc at hf
  split at hf
  · rename_i hv
    obtain ⟨ds, hds, hf⟩ := Option.bind_eq_some_iff.mp hf
    split at hf
    · rename_i hbig
      obtain ⟨out, ho, rfl⟩ := Option.map_eq_some_iff.mp hf
      have hv' : ∀ v ∈ vs, plain0 ρ[v]? := fun v hm => lvl0_plain (List.all_eq_true.mp hv v hm)
      refine ⟨G0, ρ, ws, ds, I, hZ, hds, fun J H1 G1 e01 I1 items Dl hD => ?_⟩
      refine ⟨fun i m H => m = ds.length - i ∧ i ≤ ds.length ∧ ∃ acc rest, SI K G1 σ ρ ((.ref Dl, .v (j + 1) (.lst acc)) :: ws) H ∧ compL t T A j (wipeE ρ vs) (ds.drop i) = some rest ∧ acc ++ rest = out ∧ acc.length ≤ i, ⟨ds.length, by simp, Nat.zero_le _, [], out, ?_, ho, rfl, Nat.le_refl _⟩, ?_⟩
      · obtain ⟨G, F1, F2, S⟩ := I1
        have g := Grow.newO (o := .lst []) S.ex hD trivial
        exact (S.push (k := j + 1) (d := .lst []) g ⟨Dl, [], [], rfl, upd_same, rfl, rfl, rfl⟩).SI
      · rintro i m H2 ⟨rfl, hi, acc, rest, I2, hc, hout, hacc⟩
        by_cases hlt : i < ds.length
        · obtain ⟨G, F1, F2, S⟩ := I2
          refine .inr ⟨items.goes i G H2 hlt ⟨_, _, _, S⟩, ?_⟩
          rw [List.drop_eq_getElem_cons hlt] at hc
          obtain ⟨ρ1, hb1, hc⟩ := Option.bind_eq_some_iff.mp hc
          obtain ⟨b, hT, hc⟩ := Option.bind_eq_some_iff.mp hc
          refine ⟨fun H => ∃ acc rest, SI K G1 σ ρ ((.ref Dl, .v (j + 1) (.lst acc)) :: ws) H ∧ compL t T A j (wipeE ρ vs) (ds.drop (i + 1)) = some rest ∧ acc ++ rest = out ∧ acc.length ≤ i + 1, fun H' ⟨acc, rest, h1, h2, h3, h4⟩ => ⟨ds.length - (i + 1), by omega, rfl, hlt, acc, rest, h1, h2, h3, h4⟩, fun x H' y => ?_⟩
          obtain ⟨G', d, gr, hd, rd⟩ := items.yields i G H2 x H' hlt ⟨_, _, _, S⟩ y
          have ed : d = ds[i] := by rw [List.getElem?_eq_getElem hlt] at hd; exact (Option.some.inj hd).symm
          subst ed
          have S3 := S.grow gr
          -- within the block
          have Sw : Si K G' (wipe σ vs) (wipeE ρ vs) ((.ref Dl, .v (j + 1) (.lst acc)) :: strip ws) H' G' F1 F2 :=
            ⟨Same.refl _, S3.ex, RSl.wiped σ ρ F1 S3.sl S3.ln hv', by exact RWs.strip (ws := (.ref Dl, .v (j + 1) (.lst acc)) :: ws) S3.wv, S3.nd, S3.fr, S3.tu, by rw [wipe_length, wipeE_len]; exact S3.ln⟩
          obtain ⟨b1, b2, b3⟩ := bindT_but t (0, ds[i]) _ ρ1 hb1
          have hl1 : ρ1.length = ρ.length := by rw [b1, wipeE_len]
          have p1 : ∀ k ∈ vs, plain0 ρ[k]? ∧ plain0 ρ1[k]? := fun k hk => ⟨hv' k hk, b3 rfl k (wipeE_in hk)⟩
          refine ⟨G', wipeE ρ vs, (.ref Dl, .v (j + 1) (.lst acc)) :: strip ws, 0, ds[i], ρ1, noRef_strip ws, (Sw.pushF rd).SI, hb1, fun σ' but I' => ⟨wipe_but but hsub, G', ρ1, _, b, I', hT, fun H3 I3 => ?_⟩⟩
          have hl2 : σ'.length = σ.length := by rw [but.1, wipe_length]
          have p2 : ∀ k, k ∉ vs → ρ1[k]? = ρ[k]? ∧ σ'[k]? = σ[k]? := fun k hk => ⟨by rw [b2 k (fun z => hk (hsub k z)), wipeE_out hk], by rw [but.2 k (fun z => hk (hsub k z)), wipe_out hk]⟩
          cases b with
          | false =>
            rw [if_neg Bool.false_ne_true] at hc
            refine iteF ?_
            obtain ⟨G5, F5, F6, S5⟩ := I3
            have S6 := Si.unwipe (pre := []) (ws := (.ref Dl, .v (j + 1) (.lst acc)) :: ws) S3 S5 rfl hl1 hl2 p1 p2
            exact ⟨acc, rest, S6.SI, hc, hout, Nat.le_succ_of_le hacc⟩
          | true =>
            rw [if_pos rfl] at hc
            refine iteT ?_
            obtain ⟨a, hA, hc⟩ := Option.bind_eq_some_iff.mp hc
            cases a with
            | r n => cases hc
            | v k xd =>
              simp only at hc
              split at hc
              · rename_i hlv
                obtain ⟨rest', hr', rfl⟩ := Option.map_eq_some_iff.mp hc
                refine ⟨G', ρ1, _, _, I3, hA, fun y4 H4 I4 => ?_⟩
                obtain ⟨G5, F5, F6, S5⟩ := I4
                have S6 := Si.unwipe (pre := [(y4, .v k xd)]) (ws := (.ref Dl, .v (j + 1) (.lst acc)) :: ws) S3 S5 rfl hl1 hl2 p1 p2
                obtain ⟨xs, hx1, hx2, hx3⟩ := Si.addItem hlv S6
                refine ⟨xs, hx1, ?_, acc ++ [xd], rest', hx3, hr', by rw [List.append_assoc]; exact hout, by rw [List.length_append]; exact Nat.succ_le_succ hacc⟩
                rw [hx2]
                exact big_lt (by omega)
              · cases hc
        · have ei : i = ds.length := by omega
          subst ei
          rw [List.drop_length] at hc
          cases hc
          rw [List.append_nil] at hout
          subst hout
          obtain ⟨G, F1, F2, S⟩ := I2
          exact .inl ⟨items.stops G H2 ⟨_, _, _, S⟩, q _ H2 (S.SI.base e01)⟩
    · cases hf
  · cases hf
/-- [.. for x in d ..], d a dict in slot i -/
def pLcD (i j : Nat) (t : Tg) (vs : List Nat) (T : Fb) (A : Fe) : Fe := fun ρ => match (ρ[i]?).join with
  | some (0, .dct _ _) => pLc j (iKeysF i) t vs T A ρ
  | _ => none
theorem lcD_slot {i j : Nat} {t : Tg} {vs : List Nat} (ρ : Env) (a : Arg) (h : pLcD i j t vs T A ρ = some a) : ∃ t kvs, ρ[i]? = some (some (0, .dct t kvs)) := by
  unfold pLcD at h
  split at h
  · rename_i t' kvs hj
    exact ⟨t', kvs, join_some hj⟩
  · cases h
theorem lcD_pLc {i j : Nat} {t : Tg} {vs : List Nat} (ρ : Env) (a : Arg) (h : pLcD i j t vs T A ρ = some a) : pLc j (iKeysF i) t vs T A ρ = some a := by
  unfold pLcD at h
  split at h
  · exact h
  · cases h
theorem e_lcD {i j : Nat} {x : Str} {p : Pos} {t : Tg} {elt tg : Expr} {ifs : List Expr} {scope : Scope} {own : List (Str × Nat)} (hc : X.calm = true) (hN : X.N.Nodup) (ok : BlkOk X.N X.env.scope scope own)
    (hg : ∀ (s : Shared) (H : Hp) (C : Addr) (cl : List (Str × Addr)) (fp : List Addr), OkG (X.blk s H scope (compEnvC scope cl C X.env) fp) tg t) (ht : ∀ (s : Shared) (H : Hp) (C : Addr) (cl : List (Str × Addr)) (fp : List Addr), OkTs (X.blk s H scope (compEnvC scope cl C X.env) fp) ifs T)
    (he : ∀ (s : Shared) (H : Hp) (C : Addr) (cl : List (Str × Addr)) (fp : List Addr), OkE (X.blk s H scope (compEnvC scope cl C X.env) fp) elt A) (hx : X.N[i]? = some x := by rfl) (hv : Vis X.env.scope x := by first | exact Or.inl rfl | exact Or.inr (Or.inl rfl) | exact Or.inr (Or.inr rfl)) (hd : (x == ("__debug__" : Str)) = false := by decide)
    (hcd : (x == ("__classdict__" : Str)) = false := by decide) (hsub : ∀ i ∈ slotsT t, i ∈ own.map (·.2) := by decide) (hs : ∀ y, foldedSetIterable (.Name x p) X.env y = pure y := by exact fun _ => rfl) :
    OkE X (.ListComp elt [⟨tg, .Name x p, ifs, 0⟩] scope pos) (pLcD i j t (own.map (·.2)) T A) := by
  have h0 : PE X (.ListComp elt [⟨tg, .Name x p, ifs, 0⟩] scope pos) (tEZ X.K (LockAt X.K i) (pLcD i j t (own.map (·.2)) T A)) := PE.imp (pe_lc (g := tG X.K t) (tt := tT X.K T) (te := tE X.K A) hc hN (c_keys (pe_var hx hv hd hcd)) ok hg ht he hs) fun σ H Q ⟨G0, ρ, ws, a, I, hZ, hf, q⟩ =>
    lcZ_imp hsub σ H Q ⟨G0, ρ, ws, a, I, hZ, lcD_pLc ρ a hf, q⟩
  exact PE.imp (PE.or (pe_lock h0) h0) fun σ H Q h => lockE_imp lcD_slot h
def tSZ (K : PySem.W.Frag) (Z : Hp → L2.St → Env → Prop) (f : Fs) : TS := fun D σ H => ∃ G0 ρ fl ρ', SI K G0 σ ρ [] H ∧ Z G0 σ ρ ∧ f ρ = some (fl, ρ') ∧ Post K G0 D fl ρ'
theorem forZ {iter : Expr} {it : Fit} {t : Tg} {Z : Hp → L2.St → Env → Prop} (hp : PassesOwn (model X.prog X.w) X.A X.env X.xe) (hc : X.calm = true) (hi : PI X tg iter (tIZ X.K Z it)) (hg : OkG X tg t) (hb : OkB X body f) (hs : ∀ x, foldedSetIterable iter X.env x = pure x := by exact fun _ => rfl) :
    PS X (.For tg iter body [] pos) (tSZ X.K Z (sFor it t f)) := PS.imp (ps_for hp hc hi hg hb hs) fun D σ H ⟨G0, ρ, fl, ρ', I, hZ, hf, post⟩ => by
  obtain ⟨ds, hds, hf⟩ := Option.bind_eq_some_iff.mp hf
  refine ⟨G0, ρ, ds, I, hZ, hds, fun J H1 G1 e01 I1 it => ?_⟩
  refine ⟨fun i m σ H => m = ds.length - i ∧ i ≤ ds.length ∧ ∃ ρi, SI X.K G1 σ ρi [] H ∧ loopF t f (ds.drop i) ρi = some (fl, ρ'), ⟨ds.length, by simp, Nat.zero_le _, ρ, I1, hf⟩, ?_⟩
  rintro i m σ2 H2 ⟨rfl, hi, ρi, Ii, hl⟩
  by_cases hlt : i < ds.length
  · obtain ⟨G, F1, F2, J2⟩ := Ii
    refine .inr ⟨it.goes i G H2 hlt ⟨J2.ex0, J2.ex, J2.tu⟩, ?_⟩
    rw [List.drop_eq_getElem_cons hlt] at hl
    obtain ⟨ρ1, hb1, hl⟩ := Option.bind_eq_some_iff.mp hl
    obtain ⟨⟨fl1, ρ2⟩, hb2, hl⟩ := Option.bind_eq_some_iff.mp hl
    refine ⟨fun σ H => ∃ ρi, SI X.K G1 σ ρi [] H ∧ loopF t f (ds.drop (i + 1)) ρi = some (fl, ρ'), fun σ' H' ⟨ρi, h1, h2⟩ => ⟨ds.length - (i + 1), by omega, rfl, hlt, ρi, h1, h2⟩, fun x H' y => ?_⟩
    obtain ⟨G', d, gr, hd, rd⟩ := it.yields i G H2 x H' hlt ⟨J2.ex0, J2.ex, J2.tu⟩ y
    have ed : d = ds[i] := by rw [List.getElem?_eq_getElem hlt] at hd; exact (Option.some.inj hd).symm
    subst ed
    have J3 := (J2.grow gr).pushF rd
    refine ⟨G1, ρi, [], 0, ds[i], ρ1, rfl, J3.SI, hb1, fun σ' _ I' => ⟨G1, ρ1, fl1, ρ2, I', hb2, ?_⟩⟩
    cases fl1 with
    | nx => exact fun σ H I => ⟨ρ2, I, hl⟩
    | ct => exact fun σ H I => ⟨ρ2, I, hl⟩
    | bk => cases hl; exact fun σ H I => post σ H (I.base e01)
    | rt w => cases hl; exact fun v H r => post v H (r.base e01)
  · have ei : i = ds.length := by omega
    subst ei
    rw [List.drop_length] at hl
    cases hl
    obtain ⟨G, F1, F2, J2⟩ := Ii
    exact .inl ⟨it.stops G H2 ⟨J2.ex0, J2.ex, J2.tu⟩, post σ2 H2 (J2.SI.base e01)⟩
/-- for x in d: .., d a dict in slot i -/
def sForD (i : Nat) (t : Tg) (f : Fs) : Fs := fun ρ => match (ρ[i]?).join with
  | some (0, .dct _ _) => sFor (iKeysF i) t f ρ
  | _ => none
theorem lockS_imp {i : Nat} {σ : L2.St} {H : Hp} {D : Ends} {f : Fs} (hs : ∀ ρ a, f ρ = some a → ∃ t kvs, ρ[i]? = some (some (0, .dct t kvs))) (h : tS K f D σ H) : tLock (tSZ K (LockAt K i) f) D σ H ∨ tSZ K (LockAt K i) f D σ H := by
  obtain ⟨G0, ρ, fl, ρ', ⟨G, F1, F2, J⟩, hf, post⟩ := h
  obtain ⟨t, kvs, hρ⟩ := hs ρ _ hf
  obtain ⟨v, Fi, h1, ⟨h2, _⟩, _⟩ := J.sl.at hρ
  obtain ⟨p, xs, rfl, hr, ok, rk⟩ := h2
  rcases hr with hr | ⟨od, hr⟩
  · refine .inl ⟨p, hoD t xs, J.ex _ _ hr, by cases t <;> trivial, fun od => ⟨upd G p (.frz od (hoD t xs)), ρ, fl, ρ', (J.lock hr od).SI, ⟨p, od, t, xs, kvs, h1, hρ, upd_same, ok, RepFk.sim (Sim.lock hr) _ _ rk⟩, hf, ?_⟩⟩
    have h0 : ∀ b o, G0 b = some o → b = p ∧ o = hoD t xs ∨ b ≠ p ∧ upd G p (.frz od (hoD t xs)) b = some o := fun b o q => by
      by_cases e : b = p
      · subst e
        have := J.ex0 _ _ q
        rw [hr] at this
        exact .inl ⟨rfl, (Option.some.inj this).symm⟩
      · exact .inr ⟨e, by rw [upd_ne e]; exact J.ex0 _ _ q⟩
    have go : ∀ (N : L2.St → Hp → Prop), (∀ σ H, SI K G0 σ ρ' [] H → N σ H) → ∀ σ H, SI K (upd G p (.frz od (hoD t xs))) σ ρ' [] H → H p = some (.frz od (hoD t xs)) ∧ N σ (upd H p (hoD t xs)) := fun N hN σ H I' => by
      obtain ⟨G', F3, F4, J'⟩ := I'
      exact ⟨J'.ex _ _ (J'.ex0 _ _ upd_same), hN _ _ (J'.unlock upd_same h0).SI⟩
    cases fl with
    | nx => exact go _ post
    | bk => exact go _ post
    | ct => exact go _ post
    | rt w =>
      intro v H' ⟨G', F, e1, e2, r, nd, fr, tu⟩
      have hp : G' p = some (.frz od (hoD t xs)) := e1 _ _ upd_same
      have ne : ∀ a ∈ F, a ≠ p := fun a ha e => by
        subst e
        have := fr a ha
        rw [hp] at this; cases this
      refine ⟨e2 _ _ hp, post _ _ ⟨upd G' p (hoD t xs), F, fun b o q => ?_, fun b o q => ?_, RO.sim (Sim.unlock hp) _ _ _ F (fun a ha => upd_ne (ne a ha)) r, nd, fun a ha => by rw [upd_ne (ne a ha)]; exact fr a ha, fun b o q1 q2 => ?_⟩⟩
      · rcases h0 b o q with ⟨e3, e4⟩ | ⟨e3, e4⟩
        · subst e3 e4; exact upd_same
        · rw [upd_ne e3]; exact e1 b o e4
      · by_cases e : b = p
        · subst e; rw [upd_same] at q ⊢; exact q
        · rw [upd_ne e] at q ⊢; exact e2 b o q
      · by_cases e : b = p
        · subst e; rw [upd_same] at q1; cases q1; exact absurd (isOwn_hoD t xs) q2
        · rw [upd_ne e] at q1 ⊢; exact tu b o q1 q2
  · refine .inr ⟨G, ρ, fl, ρ', J.up, ⟨p, od, t, xs, kvs, h1, hρ, hr, ok, rk⟩, hf, ?_⟩
    cases fl with
    | nx => exact fun σ H I => post σ H (I.base J.ex0)
    | bk => exact fun σ H I => post σ H (I.base J.ex0)
    | ct => exact fun σ H I => post σ H (I.base J.ex0)
    | rt w => exact fun v H r => post v H (r.base J.ex0)
theorem s_forD {i : Nat} {x : Str} {p : Pos} {t : Tg} (hp : PassesOwn (model X.prog X.w) X.A X.env X.xe) (hc : X.calm = true) (hg : OkG X tg t) (hb : OkB X body f) (hx : X.N[i]? = some x := by rfl) (hv : Vis X.env.scope x := by first | exact Or.inl rfl | exact Or.inr (Or.inl rfl) | exact Or.inr (Or.inr rfl)) (hd : (x == ("__debug__" : Str)) = false := by decide)
    (hcd : (x == ("__classdict__" : Str)) = false := by decide) (hs : ∀ y, foldedSetIterable (.Name x p) X.env y = pure y := by exact fun _ => rfl) : OkS X (.For tg (.Name x p) body [] pos) (sForD i t f) := by
  have h0 : PS X (.For tg (.Name x p) body [] pos) (tSZ X.K (LockAt X.K i) (sForD i t f)) := PS.imp (forZ (t := t) hp hc (i_keys (pe_var hx hv hd hcd)) hg hb hs) fun D σ H ⟨G0, ρ, fl, ρ', I, hZ, hf, post⟩ => by
    refine ⟨G0, ρ, fl, ρ', I, hZ, ?_, post⟩
    unfold sForD at hf
    split at hf
    · exact hf
    · cases hf
  refine PS.imp (PS.or (ps_lock h0) h0) fun D σ H h => lockS_imp (fun ρ a h => ?_) h
  unfold sForD at h
  split at h
  · rename_i t' kvs hj
    exact ⟨t', kvs, join_some hj⟩
  · cases h
end
end Pv
set_option Elab.async false
set_option linter.all false
set_option maxRecDepth 100000
/-! P14: sorted -/
namespace Pv
open PySem PySem.Spec PyProof.Rows L2 PySem.W
def encD (d : D) : PyData := (toPy d).getD .none
def isTupNE : PyData → Bool
  | .tuple (_ :: _) => true
  | _ => false
def notTup : PyData → Bool
  | .tuple _ => false
  | .none => false
  | _ => true
def okSort (ps : List PyData) : Bool := (ps.all fun p => decide (p.depth ≤ 60) && ps.all fun q => alike p q) && (ps.all isTupNE || ps.all notTup)
def leD : D → D → Bool := dataLe false encD
section
variable {X : Cx} {K : PySem.W.Frag} {G0 G G1 G' H H' : Hp} {σ : L2.St} {ρ : Env} {ws : List (V × Arg)} {F F1 F2 : List Addr} {e a b c tg : Expr} {es : List Expr} {pos : Pos} {A B C : Fe}
theorem okSort_alike {ps : List PyData} (h : okSort ps = true) : AllAlike ps := fun p hp q hq => by
  unfold okSort at h
  rw [Bool.and_eq_true] at h
  have := List.all_eq_true.mp h.1 p hp
  rw [Bool.and_eq_true] at this
  exact List.all_eq_true.mp this.2 q hq
theorem okSort_depth {ps : List PyData} (h : okSort ps = true) {p : PyData} (hp : p ∈ ps) : p.depth ≤ 60 := by
  unfold okSort at h
  rw [Bool.and_eq_true] at h
  have := List.all_eq_true.mp h.1 p hp
  rw [Bool.and_eq_true] at this
  exact of_decide_eq_true this.1
theorem okSort_kind {ps : List PyData} (h : okSort ps = true) : Sortable ps := by
  unfold okSort at h
  rw [Bool.and_eq_true, Bool.or_eq_true] at h
  rcases h.2 with h | h
  · refine .inl fun d hd => ?_
    have := List.all_eq_true.mp h d hd
    unfold isTupNE at this
    split at this
    · exact ⟨_, _, rfl⟩
    · cases this
  · refine .inr fun d hd => ?_
    have := List.all_eq_true.mp h d hd
    unfold notTup at this
    split at this
    · cases this
    · cases this
    · rename_i h1 h2
      exact ⟨fun z => h2 z, fun xs z => h1 xs z⟩
theorem encD_of {d : D} {p : PyData} (h : toPy d = some p) : encD d = p := by unfold encD; rw [h]; rfl
theorem toPys_enc : ∀ {ds : List D} {ps : List PyData}, toPys ds = some ps → ps = ds.map encD ∧ ∀ d ∈ ds, toPy d = some (encD d)
  | [], _, h => by cases h; exact ⟨rfl, fun d hd => by cases hd⟩
  | d :: ds, _, h => by
    obtain ⟨p, hp, h⟩ := Option.bind_eq_some_iff.mp h
    obtain ⟨qs, hq, rfl⟩ := Option.map_eq_some_iff.mp h
    obtain ⟨h1, h2⟩ := toPys_enc hq
    refine ⟨by rw [List.map_cons, encD_of hp, ← h1], fun d' hd => ?_⟩
    rcases List.mem_cons.mp hd with rfl | hd
    · rw [encD_of hp]; exact hp
    · exact h2 d' hd
/-- a value that stands for data -/
def Std (K : PySem.W.Frag) (G : Hp) (u : Value) (d : D) : Prop := ∃ x, RepF K G d x ∧ RelV x u
theorem std_of : ∀ {ds : List D} {xs : List V} {us : List Value}, RepFs K G ds xs → Vals xs us → EachIs (Std K G) us ds
  | [], _, us, r, v => by
    rw [show _ = [] from r] at v
    cases v
    exact .nil
  | d :: ds, _, us, ⟨x, xs, h1, h2, h3⟩, v => by
    subst h1
    cases v with
    | cons r t => exact .cons ⟨x, h2, r⟩ (std_of h3 t)
theorem of_std : ∀ {ds : List D} {us : List Value}, EachIs (Std K G) us ds → ∃ xs, RepFs K G ds xs ∧ Vals xs us
  | _, _, .nil => ⟨[], rfl, .nil⟩
  | _, _, .cons ⟨x, h1, h2⟩ t => by
    obtain ⟨xs, h3, h4⟩ := of_std t
    exact ⟨x :: xs, ⟨x, xs, rfl, h1, h3⟩, .cons h2 h4⟩
theorem std_reads {pins : List (Addr × Obj)} {s : Shared} (I : Inv X pins σ H s) (e : Same G H) : ∀ {ds : List D} {us : List Value}, (∀ d ∈ ds, toPy d = some (encD d)) → EachIs (Std X.K G) us ds → EachIs (fun v b => ∃ as, Reads s.heap v (encD b) as) us ds
  | _, _, _, .nil => .nil
  | d :: ds, _, h, .cons ⟨x, h1, h2⟩ t => .cons (Dp.reads I _ x _ (dp_of e d _ x (h d List.mem_cons_self) h1) h2) (std_reads I e (fun d' hd => h d' (List.mem_cons_of_mem _ hd)) t)
def rSortedG (K : PySem.W.Frag) : List V → Hp → VK → Prop := fun vs H Q => ∃ (G : Hp) (ds : List D) (ps : List PyData) (a : Addr) (xs : List V), vs = [V.ref a] ∧ Same G H ∧ SqL K H a xs ∧ RepFs K G ds xs ∧ toPys ds = some ps ∧ okSort ps = true ∧ ds.length ≤ big ∧
  ∀ p ys, H p = none → RepFs K G (ds.mergeSort leD) ys → Q (.ref p) (upd H p (.lst ys))
theorem cr_sortedG (hu : X.A.units + 64 < cLine) : CallR X (.builtin "sorted") (rSortedG X.K) := by
  intro pins s σ H vs us Q I r h
  obtain ⟨G, ds, ps, a, xs, rfl, e, hs, hr, hp, ok, hz, q⟩ := h
  obtain ⟨its, rv, hl, _⟩ := I.list hs
  rw [Vals.ref1 r]
  obtain ⟨h1, h2⟩ := toPys_enc hp
  subst h1
  have est := std_of hr rv
  refine sorted_data (enc := encD) hl.isList est (std_reads I e h2 est) (okSort_alike ok) (okSort_kind ok) (big_line hz) (fun b hb => ?_) fun out ho hst => ?_
  · have := okSort_depth ok (List.mem_map.mpr ⟨b, hb, rfl⟩)
    omega
  · obtain ⟨ys, hy1, hy2⟩ := of_std hst
    obtain ⟨ep, he'⟩ := sortedAll_at s.heap its (List.toArray out)
    refine ⟨.ref (s.heap.objs.size + 1), upd H (s.heap.objs.size + 1) (.lst ys), I.laid (t' := s.toks) (fun b u q => sortedAll_old q) (Nat.le_succ _) ⟨?_, out, ep, hy2, he'⟩, rfl, q _ ys (I.hok.fresh (Nat.le_succ _)) hy1⟩
    rw [hy2.length, ho]
    exact big_line hz
def sortD (ds : List D) : Option W := (toPys ds).bind fun ps => if okSort ps = true ∧ ds.length ≤ big then some (1, .lst (ds.mergeSort leD)) else none
def gSorted : W → Option W := fun u => (listD u).bind sortD
theorem g_sorted : Op1 K (fun x H Q => rSortedG K [x] H Q) gSorted := by
  intro G H u x Fu w e ru hw
  obtain ⟨ds, hd, hw⟩ := Option.bind_eq_some_iff.mp hw
  obtain ⟨ps, hp, hw⟩ := Option.bind_eq_some_iff.mp hw
  split at hw
  · rename_i ok
    cases hw
    obtain ⟨a, xs, rfl, h1, h2⟩ := list_rep e hd ru
    refine fun Q q => ⟨G, ds, ps, a, xs, rfl, e, h1, h2, hp, ok.1, ok.2, fun p ys hp' hy => ?_⟩
    have g := Grow.newO (o := .lst ys) e hp' trivial
    exact q _ _ _ [p] g ⟨p, ys, [], rfl, upd_same, rfl, ROs.of_F hy⟩
  · cases hw
theorem e_sorted {p : Pos} (hu : X.A.units + 64 < cLine) (hg : Gl X "sorted") (hm : X.mg "sorted" = none) (ha : OkE X a A) (hs : starEach (a :: []) X.env = (false, eval a X.env) :: starEach [] X.env := by rfl) : OkE X (.Call (.Name "sorted" p) [a] [] pos) (pCall (on1 gSorted) (aCons A aNil)) :=
  e_bi (cr_sortedG hu) (opN_1 g_sorted) hg hm (by rfl) (a_cons ha a_nil hs) (hs := hs)
/-! ### sorted(d) -/
/-- the keys of a dict, as they lie -/
theorem kdlR {prog : Program} {w : World} {d : Addr} {o : Obj} {es : Array DictEntry} {ep : Nat} (lo : (d == sysModules) = false) (hc : o.ExactDict) (hd : o.data = .dict es ep) :
    KdlSrc prog w "dict" d d es.size (fun i v => ∃ en, es[i]? = some en ∧ v = en.key) (fun h => h.get? d = some o) where
  type := fun s h => ⟨o, h, hc.1⟩
  there := fun h e => ⟨Heap.lt_size e, Heap.lt_size e⟩
  keep := fun h h' e k => k d (.inl rfl) o e
  notList := by decide
  notTuple := by decide
  hint := fun A E s Q h hq => kdl_hint_dict ⟨o, h, hc.1⟩ hq
  iter := fun A s hh h => by
    refine ⟨_, fun i hp => hp.IsKeyIter s.heap.objs.size d i es.size ep ∧ hp.get? d = some o, fun E Q hq => iter_keys lo h hc hd hq, ?_, ⟨⟨_, Heap.get?_push_size _ rfl, rfl, rfl⟩, Heap.get?_push_of_some _ h⟩⟩
    have hne : d ≠ s.heap.objs.size := Nat.ne_of_lt (Heap.lt_size h)
    exact
      { sub := fun b hb => by simp at hb; simp [hb]
        frame := fun i h h' st k => ⟨st.1.at fun oi e => k _ (by simp) oi e, k d (by simp) o st.2⟩
        item := fun i s' Q E hi st hQ => by
          have hen : es[i]? = some es[i] := Array.getElem?_eq_getElem hi
          refine next_key_item st.1 st.2 hd rfl hen fun h' st' sb => ?_
          exact hQ _ h' s'.toks ⟨_, hen, rfl⟩ ⟨st', (sb.2 d hne).trans st.2⟩ fun b ob hb e => (sb.2 b (fun z => hb (by simp [z]))).trans e
        done := fun s' Q E st hQ => next_key_end hh st.1 st.2 hd rfl (Nat.le_refl _) fun h' eb => hQ h' s'.toks fun b ob hb e => eb b ob (fun z => hb (by simp [z])) e
        self := fun i s' Q E st hQ => wpAny_pyIter_keyiter st.1 hQ }
theorem pairs_key {κ : Type} [DecidableEq κ] {P : Program} {w : World} {knd : KeyKind P w κ} : ∀ {es : List DictEntry} {vs : List (κ × Value)}, Pairs knd es vs → ∀ {i : Nat} {k : κ} {u : Value}, vs[i]? = some (k, u) → ∃ en, es[i]? = some en ∧ knd.is k en.key = true ∧ en.val = u
  | _, _, .nil, i, k, u, h => by simp at h
  | _, _, .cons (e := en) h1 h2 t, 0, k, u, h => by
    simp at h
    subst h
    exact ⟨en, rfl, h1, h2⟩
  | _, _, .cons h1 h2 t, i + 1, k, u, h => by
    obtain ⟨en, q1, q2⟩ := pairs_key t (by simpa using h)
    exact ⟨en, by simpa using q1, q2⟩
/-- a key as it lies -/
def KeyAt (H : Hp) : Bool → List Key → Value → Prop
  | false, k, u => RelV (kV (k.headD (.inl 0))) u
  | true, k, u => ∃ q, u = .ref q ∧ H q = some (.tup (k.map kV))
/-- what lies at a dict -/
theorem dict_raw {pins : List (Addr × Obj)} {s : Shared} {d : Addr} {t : Bool} {xs : List (List Key × V)} (I : Inv X pins σ H s) (h : Rd H d (hoD t xs)) (ok : keysOk t xs) :
    (d == sysModules) = false ∧ ∃ o es ep, s.heap.get? d = some o ∧ o.ExactDict ∧ o.data = .dict es ep ∧ es.size = xs.length ∧ ∀ (i : Nat) (k : List Key) (v : V), xs[i]? = some (k, v) → ∃ en, es[i]? = some en ∧
      KeyAt H t k en.key := by
  cases t with
  | true =>
    have key : ∃ u, ObjOk X.prog X.w H s.heap d u ∧ u = .dT xs := ⟨_, h.ok I.hok, rfl⟩
    obtain ⟨u, hu, rfl⟩ := key
    obtain ⟨z, hs, ys, pr, o, es, ep, ho, hx, hdt, he, _⟩ := hu
    refine ⟨hs, o, es, ep, ho, hx, hdt, ?_, fun i k v e => ?_⟩
    · have l1 : es.size = ys.length := size_of_entries he
      have l2 : xs.length = ys.length := Paired.length pr
      omega
    · obtain ⟨b, hb, e1, e2, _⟩ := paired_get pr e
      have q := entry_at he i
      rw [hb] at q
      exact ⟨_, q, b.2.1, rfl, e2⟩
  | false =>
    obtain ⟨z, hs, vs, kv, o, es, ep, ho, hx, hdt, hk⟩ := (show ObjOk X.prog X.w H s.heap d (.dK _) from h.ok I.hok)
    obtain ⟨hk1, hp, hn⟩ := hk
    have l1 := hp.length
    have l2 : (xs.map fun p => (p.1.headD (.inl 0), p.2)).length = vs.length := Paired.length kv
    rw [Array.length_toList] at l1
    rw [List.length_map] at l2
    refine ⟨hs, o, es, ep, ho, hx, hdt, by omega, fun i k v e => ?_⟩
    have e' : (xs.map fun p => (p.1.headD (.inl 0), p.2))[i]? = some (k.headD (.inl 0), v) := by rw [List.getElem?_map, e]; rfl
    obtain ⟨u, hu, _⟩ := kv_get kv e'
    obtain ⟨en, hen, h1, h2⟩ := pairs_key hp hu
    exact ⟨en, by rw [← Array.getElem?_toList]; exact hen, relV_key h1⟩
def pk : Key → PyData
  | .inl i => .int i
  | .inr s => .str s
theorem toPy_kD (k : Key) : toPy (kD k) = some (pk k) := by cases k <;> rfl
theorem toPys_kD : ∀ ks : List Key, toPys (ks.map kD) = some (ks.map pk)
  | [] => rfl
  | k :: ks => by
    show (toPy (kD k)).bind _ = _
    rw [toPy_kD]
    show (toPys (ks.map kD)).map _ = _
    rw [toPys_kD ks]; rfl
theorem enc_key (t : Bool) (ks : List Key) : encD (keyDat t ks) = match t with | false => pk (ks.headD (.inl 0)) | true => .tuple (ks.map pk) := by
  cases t with
  | false => exact encD_of (toPy_kD _)
  | true => exact encD_of (by show (toPys (ks.map kD)).map _ = _; rw [toPys_kD]; rfl)
theorem reads_k {h : Heap} {k : Key} {u : Value} (r : RelV (kV k) u) : Reads h u (pk k) [] := by
  cases k with
  | inl i => obtain ⟨t, rfl⟩ := r; exact .int i t
  | inr s => obtain ⟨t, rfl⟩ := r; exact .str s t
theorem reads_ks {h : Heap} : ∀ {ks : List Key} {us : List Value}, Vals (ks.map kV) us → ReadsAll h us (ks.map pk) []
  | [], _, .nil => .nil
  | k :: ks, _, .cons r t => ReadsAll.cons (as := []) (bs := []) (reads_k r) (reads_ks t)
theorem reads_key {pins : List (Addr × Obj)} {s : Shared} {h' : Heap} {t : Bool} {ks : List Key} {u : Value} (I : Inv X pins σ H s) (kp : ∀ b o, s.heap.get? b = some o → h'.get? b = some o) (h : KeyAt H t ks u) : Reads h' u (encD (keyDat t ks)) [] := by
  rw [enc_key]
  cases t with
  | false => exact reads_k h
  | true =>
    obtain ⟨q, rfl, hq⟩ := h
    obtain ⟨z, its, rv, o, ho, hc, n, hd⟩ := (show ObjOk X.prog X.w H s.heap q (.tup _) from I.hok q _ hq)
    exact .tuple (kp _ _ ho) hc hd (reads_ks rv)
theorem each_get {α β : Type} {R : α → β → Prop} : ∀ {us : List α} {ds : List β}, us.length = ds.length → (∀ (i : Nat) (u : α) (d : β), us[i]? = some u → ds[i]? = some d → R u d) → EachIs R us ds
  | [], [], _, _ => .nil
  | u :: us, d :: ds, hl, h => .cons (h 0 u d rfl rfl) (each_get (by simpa using hl) fun i u' d' h1 h2 => h (i + 1) u' d' (by simpa using h1) (by simpa using h2))
  | [], _ :: _, hl, _ => by simp at hl
  | _ :: _, [], hl, _ => by simp at hl
def rSortedDG (K : PySem.W.Frag) : List V → Hp → VK → Prop := fun vs H Q => ∃ (G : Hp) (t : Bool) (kvs : List (List Key × D)) (ps : List PyData) (a : Addr) (xs : List (List Key × V)), vs = [V.ref a] ∧ Same G H ∧ (∀ b o, H b = some o → ¬ isOwn o → G b = some o) ∧ Rd H a (hoD t xs) ∧ keysOk t xs ∧ RepFk K G kvs xs ∧
  toPys (kvs.map fun p => keyDat t p.1) = some ps ∧ okSort ps = true ∧ kvs.length ≤ big ∧ ∀ p ys, H p = none → RepFs K G ((kvs.map fun p => keyDat t p.1).mergeSort leD) ys → Q (.ref p) (upd H p (.lst ys))
set_option maxHeartbeats 1000000 in
theorem cr_sortedDG (hcalm : X.calm = true) (hu : X.A.units + 64 < cLine) : CallR X (.builtin "sorted") (rSortedDG X.K) := by
  intro pins s σ H vs us Q I r h
  obtain ⟨G, t, kvs, ps, a, xs, rfl, e, tu, hr, ok, rk, hp, oks, hz, q⟩ := h
  rw [Vals.ref1 r]
  obtain ⟨lo, o, es, ep, ho, hx, hdt, hsz, ent⟩ := dict_raw I hr ok
  have hl : xs.length = kvs.length := rk.len
  refine Calls.call_function_entry PyProof.Rows.kind_sorted PyProof.Rows.plain_sorted PyProof.Rows.entry_sorted (PyProof.Rows.args_sorted1 _) ?_
  unfold Builtin.«sorted»
  refine wpAny_bind (m := checkCount "sorted" 1 1 _) (wpAny_pure ?_)
  refine wpAny_bind (PySem.W.kdu_collect (A := X.A.in1) (kdlR lo hx hdt) (I.ok.hd hcalm) ho (by rw [hsz, hl]; exact big_line hz) fun h' tk acc hk hacc => ?_)
  have I1 : Inv X pins σ H { s with heap := h', toks := tk } := I.kept hk
  have hal : acc.toList.length = kvs.length := by rw [Array.length_toList, hacc.1, hsz, hl]
  refine wpAny_bind (wpAny_newList ?_ (by rw [hal]; exact big_line hz))
  have hoL : (h'.push (seqObj "list" acc.toList.toArray 0)).get? h'.objs.size = some (seqObj "list" acc.toList.toArray 0) := Heap.get?_push_size _ rfl
  show wpAny _ _ _ _ _ { s with heap := h'.push (seqObj "list" acc.toList.toArray 0), toks := tk }
  obtain ⟨h1, h2⟩ := toPys_enc hp
  subst h1
  have key : ∀ (i : Nat) (u : Value) (d : D), acc.toList[i]? = some u → (kvs.map fun p => keyDat t p.1)[i]? = some d → ∃ ks : List Key, d = keyDat t ks ∧ KeyAt H t ks u := fun i u d hu hd => by
    rw [List.getElem?_map] at hd
    obtain ⟨⟨ks, d'⟩, hkv, rfl⟩ := Option.map_eq_some_iff.mp hd
    have hlt : i < xs.length := by rw [hl]; exact (List.getElem?_eq_some_iff.mp hkv).1
    obtain ⟨⟨ks', v⟩, hxi⟩ : ∃ p, xs[i]? = some p := ⟨xs[i], List.getElem?_eq_getElem hlt⟩
    obtain ⟨d2, hd2⟩ := rk.key hxi
    rw [hkv] at hd2
    cases hd2
    obtain ⟨en, hen, hkey⟩ := ent i ks v hxi
    obtain ⟨en', hen', hu'⟩ := hacc.2 i u (by rw [← Array.getElem?_toList]; exact hu)
    rw [hen] at hen'
    cases hen'
    rw [hu']
    exact ⟨ks, rfl, hkey⟩
  have hlen : acc.toList.length = (kvs.map fun p => keyDat t p.1).length := by rw [List.length_map]; exact hal
  have est : EachIs (Std X.K G) acc.toList (kvs.map fun p => keyDat t p.1) := each_get hlen fun i u d hu hd => by
    obtain ⟨ks, rfl, hkey⟩ := key i u d hu hd
    cases t with
    | false => exact ⟨_, kD_rep _, hkey⟩
    | true =>
      obtain ⟨q, rfl, hq⟩ := hkey
      exact ⟨.ref q, ⟨q, _, rfl, tu _ _ hq (fun z => z), kDs_rep ks⟩, rfl⟩
  have erd : EachIs (fun v b => ∃ as, Reads (h'.push (seqObj "list" acc.toList.toArray 0)) v (encD b) as ∧ h'.objs.size ∉ as) acc.toList (kvs.map fun p => keyDat t p.1) := each_get hlen fun i u d hu hd => by
    obtain ⟨ks, rfl, hkey⟩ := key i u d hu hd
    exact ⟨[], reads_key I1 (fun b o q => Heap.get?_push_of_some _ q) hkey, by simp⟩
  refine wpAny_bind (wpAny_holding (list_sort_data (s := { s with heap := h'.push (seqObj "list" acc.toList.toArray 0), toks := tk }) (enc := encD) hoL est erd (okSort_alike oks) (okSort_kind oks) (by rw [← hlen, hal]; exact big_line hz) (fun b hb => ?_) fun out ho' hst => ?_))
  · have := okSort_depth oks (List.mem_map.mpr ⟨b, hb, rfl⟩)
    have hu1 : X.A.in1.units ≤ X.A.units + 1 := by first | exact Nat.le_refl _ | (show _ ≤ _; simp [Around.in1, Around.units])
    omega
  · obtain ⟨ys, hy1, hy2⟩ := of_std hst
    obtain ⟨e', he'⟩ := PyProof.Rows.sortedHeap_at (vs := acc.toList) (out := List.toArray out) hoL
    refine wpAny_pure ⟨_, rfl, .ref h'.objs.size, upd H h'.objs.size (.lst ys), I1.laid (t' := tk) (fun b u e => ?_) (Nat.le_refl _) ⟨?_, out, e', hy2, he'⟩, rfl, q _ ys (I1.hok.fresh (Nat.le_refl _)) hy1⟩
    · have hb : b < h'.objs.size := Heap.lt_size e
      rw [PyProof.Rows.sortedHeap_old (Nat.ne_of_lt hb) (by rw [size_push']; exact Nat.lt_succ_of_lt hb)]
      exact Heap.get?_push_of_some _ e
    · rw [hy2.length, ho', List.length_map]
      exact big_line hz
end
end Pv
set_option Elab.async false
set_option linter.all false
set_option maxRecDepth 100000
/-! P15: tuples whose object is known, their methods; a dict of the module; tuple * int; sorted(d) -/
namespace Pv
open PySem PySem.Spec PyProof.Rows L2
section
variable {X : Cx} {K : PySem.W.Frag} {G0 G G1 G' H H' : Hp} {σ : L2.St} {ρ : Env} {ws : List (V × Arg)} {F F1 F2 : List Addr} {e a b c tg : Expr} {es : List Expr} {pos : Pos} {A B C : Fe}
/-! ### (..) and tuple(x), the object known -/
def tTupF (t : TA) : TE := fun σ H Q => t σ H fun xs H1 => xs.length ≤ sizeLine ∧ ∀ p od, H1 p = none → FT od → Q (.ref p) (upd H1 p (.frz od (.tup xs)))
theorem pe_tupF {x1} {t : TA} (h : PA X es t) : PE X (.Tuple es x1 pos) (tTupF t) := by
  refine ⟨fun pins s σ H Q I hq => ?_⟩
  refine wpAny_Tuple_spliced (thn (h.run pos pins s σ H _ I hq) fun us s1 ⟨xs, H1, I1, r, z, q⟩ => ⟨by rw [← r.length]; exact z, ?_⟩)
  have hf : H1 s1.heap.objs.size = none := I1.hok.fresh (Nat.le_refl _)
  refine ⟨.ref s1.heap.objs.size, upd H1 s1.heap.objs.size (.frz { cls := .type "tuple", data := .seq us.toArray } (.tup xs)), I1.laid (t' := s1.toks) (fun b u e => Heap.get?_push_of_some _ e) (Nat.le_refl _) ?_, rfl, q _ _ hf ⟨rfl, rfl⟩⟩
  exact ⟨Heap.get?_push_size _ rfl, z, us, r, ⟨_, Heap.get?_push_size _ rfl, rfl, _, rfl⟩⟩
theorem KTup.new {p : Addr} {od : Obj} {xs : List V} (h : FT od) : KTup K (upd G p (.frz od (.tup xs))) p xs := .inr ⟨od, h, upd_same⟩
def pKTup (A : Fa) : Fe := fun ρ => (A ρ).bind fun as => if as.length ≤ 1000 then (ownAll as).map fun ds => .v 0 (.ktp ds) else none
theorem e_ktup {B : Fa} {x1} (h : OkA X es B) : OkE X (.Tuple es x1 pos) (pKTup B) := PE.imp (pe_tupF h) fun σ H Q ⟨G0, ρ, ws, a, I, hf, q⟩ => by
  obtain ⟨as, has, hf⟩ := Option.bind_eq_some_iff.mp hf
  split at hf
  · rename_i hz
    obtain ⟨ds, hd, rfl⟩ := Option.map_eq_some_iff.mp hf
    refine ⟨G0, ρ, ws, as, I, has, fun vs H1 hl I1 => ⟨by rw [hl]; exact Nat.le_trans hz (by decide), fun p od hp ho => ?_⟩⟩
    obtain ⟨G, F1, F2, J⟩ := I1
    obtain ⟨F3, J⟩ := Si.perm ((List.reverse_perm _).append_right ws) J
    obtain ⟨G1, F4, J1, e1, r1⟩ := Si.freezeN as vs ds hl hd J
    have g := Grow.newF (o := .frz od (.tup vs)) J1.ex hp
    exact q _ _ (J1.push (k := 0) (d := .ktp ds) g ⟨⟨p, vs, rfl, KTup.new ho, RepFs.mono g.gg _ _ r1⟩, rfl⟩).SI
  · cases hf
theorem call_tuple_ofF : CallR X (.type "tuple") (fun xs H Q => ∃ p ys, xs = [.ref p] ∧ SqL X.K H p ys ∧ ∀ l od, H l = none → FT od → Q (.ref l) (upd H l (.frz od (.tup ys)))) := by
  intro pins s σ H xs us Q I r h
  obtain ⟨p, ys, rfl, hq, q⟩ := h
  obtain ⟨u, rfl, rx⟩ := vals1 r
  cases rx
  obtain ⟨its, r', pl, hz⟩ := I.list hq
  have hlen := r'.length
  refine call_tuple_list pl.isList (fun h' kp => ?_) (by simp only [List.size_toArray] <;> omega)
  have I1 : Inv X pins σ H { s with heap := h' } := I.kept (t' := s.toks) kp
  have I2 : Inv X pins σ (upd H h'.objs.size (.frz { cls := .type "tuple", data := .seq its.toArray } (.tup ys))) { s with heap := h'.push { cls := .type "tuple", data := .seq its.toArray } } :=
    I1.laid (t' := s.toks) (fun b o e => Heap.get?_push_of_some _ e) (Nat.le_refl _) ⟨Heap.get?_push_size _ rfl, hz, its, r', IsTup.new _ _⟩
  exact ⟨.ref h'.objs.size, _, I2, rfl, q _ _ (I1.hok.fresh (Nat.le_refl _)) ⟨rfl, rfl⟩⟩
def gKTupOf : W → Option W := fun u => (listD u).map fun ds => (0, .ktp ds)
theorem g_ktupOf : Op1 K (fun x H Q => ∃ p ys, [x] = [.ref p] ∧ SqL K H p ys ∧ ∀ l od, H l = none → FT od → Q (.ref l) (upd H l (.frz od (.tup ys)))) gKTupOf := by
  intro G H u x Fu w e ru hw
  obtain ⟨ds, hd, rfl⟩ := Option.map_eq_some_iff.mp hw
  obtain ⟨a, xs, rfl, h1, h2⟩ := list_rep e hd ru
  refine fun Q q => ⟨a, xs, rfl, h1, fun l od hl ho => ?_⟩
  have g := Grow.newF (o := .frz od (.tup xs)) e hl
  exact q _ _ _ [] g ⟨⟨l, xs, rfl, KTup.new ho, RepFs.mono g.gg _ _ h2⟩, rfl⟩
theorem e_ktupOf {p : Pos} (hg : Gl X "tuple") (hm : X.mg "tuple" = none) (ha : OkE X a A) (hs : starEach (a :: []) X.env = (false, eval a X.env) :: starEach [] X.env := by rfl) : OkE X (.Call (.Name "tuple" p) [a] [] pos) (pCall (on1 gKTupOf) (aCons A aNil)) :=
  e_ty call_tuple_ofF (opN_1 g_ktupOf) hg hm (by rfl) (a_cons ha a_nil hs) (hs := hs)
/-! ### its methods -/
def RecvT (K : PySem.W.Frag) (x : V) (H : Hp) : Prop := ∃ p xs, x = .ref p ∧ KTup K H p xs
theorem recvT_is {pins : List (Addr × Obj)} {s : Shared} {x : V} {v : Value} (I : Inv X pins σ H s) (r : RelV x v) (h : RecvT X.K x H) : s.TypeIs v "tuple" ∧ ∀ a, v = .ref a → ∃ ob, s.heap.get? a = some ob ∧ ob.dict = none := by
  obtain ⟨p, xs, rfl, h⟩ := h
  cases r
  rcases h with ⟨o, its, n, h1, h2, h3, _⟩ | ⟨od, h1, h2⟩
  · exact ⟨⟨o, I.kIn p o h1, h2⟩, fun a e => by cases e; exact ⟨o, I.kIn p o h1, h3⟩⟩
  · obtain ⟨q, _⟩ := (show ObjOk X.prog X.w H s.heap p (.frz od (.tup xs)) from I.hok p _ h2)
    exact ⟨⟨od, q, h1.1⟩, fun a e => by cases e; exact ⟨od, q, h1.2⟩⟩
def tBMT (K : PySem.W.Frag) (r : V → List V → Hp → VK → Prop) (to : TE) (t : TA) : TE := fun σ H Q => to σ H fun x H1 => RecvT K x H1 ∧ t σ H1 fun xs H2 => r x xs H2 Q
theorem pe_bmT {o : Expr} {to : TE} {t : TA} {name : Str} {apos cpos : Pos} {id : String} {r : V → List V → Hp → VK → Prop} (slot : Slot "tuple" name id) (hty : typeOf (.builtin id) = pure (.type "method_descriptor")) (hm : MtR X id r) (ho : PE X o to) (ha : PA X (e :: es) t)
    (hbase : attributeBase o name X.env (eval o X.env) = eval o X.env := by rfl)
    (hfew : ((backTo cpos (starEach (e :: es) X.env)).all (fun x => !x.1) && (backToKw cpos (keywordEach [] X.env)).all (fun x => x.1.isSome)
      && decide ((e :: es).length + ([] : List Keyword).length + (if ([] : List Keyword).isEmpty then 0 else 1) < 30)) = true := by rfl)
    (hline : (apos.endLine == cpos.line) = true := by rfl) (hs : starEach (e :: es) X.env = (false, eval e X.env) :: starEach es X.env := by rfl) (hplain : (backTo cpos (starEach es X.env)).any (·.1) = false := by rfl) :
    PE X (.Call (.Attribute o name apos) (e :: es) [] cpos) (tBMT X.K r to t) := by
  refine ⟨fun pins s σ H Q I h => ?_⟩
  refine wpAny_Call_method_late hbase hfew hline rfl (thn (ho.run pins s σ H _ I h) fun v s1 ⟨x, H1, I1, r1, ty, q1⟩ => ?_)
  obtain ⟨h1, h2⟩ := recvT_is I1 r1 ty
  refine ⟨"tuple", id, PySem.F.plainAttrs_tuple, slot, hty, h1, h2, ?_⟩
  have hA := ha.run cpos pins s1 σ H1 _ I1 q1
  rw [hs] at hA ⊢
  refine Calls.callWith_builtin (by show (false || (backTo cpos (starEach es X.env)).any (·.1)) = false; rw [hplain] <;> rfl) (Calls.evalArgs_plain ?_)
  exact thn hA fun us s2 ⟨vs, H2, I2, r2, q2⟩ => hm pins s2 σ H2 x vs v us Q I2 r1 r2 q2
theorem bm1_imp {r : V → List V → Hp → VK → Prop} {g : W → W → Option W} (hg : Op2 K (fun x y H Q => r x [y] H Q) g) (hr : ∀ G H u v x F w, Same G H → RO K G H u.1 u.2 x F → g u v = some w → RecvT K x H) (σ : L2.St) (H : Hp) (Q : VK) (h : tE K (pOp2 g A B) σ H Q) : tBMT K r (tE K A) (tA K (aCons B aNil)) σ H Q := by
  obtain ⟨G0, ρ, ws, a, I, hf, q⟩ := h
  obtain ⟨u, hu, hf⟩ := Option.bind_eq_some_iff.mp hf
  obtain ⟨v, hv, hf⟩ := Option.bind_eq_some_iff.mp hf
  obtain ⟨w, hw, rfl⟩ := Option.map_eq_some_iff.mp hf
  obtain ⟨a1, ha, hg1⟩ := val_some hu
  obtain ⟨a2, hb, hg2⟩ := val_some hv
  refine ⟨G0, ρ, ws, a1, I, ha, fun x H1 I1 => ⟨?_, G0, ρ, (x, a1) :: ws, [a2], I1, by simp [aCons, aNil, hb], fun vs H2 hl I2 => ?_⟩⟩
  · obtain ⟨G, F1, F2, J⟩ := I1
    obtain ⟨Fx, rx⟩ := J.top hg1
    exact hr G H1 u v x Fx w J.ex rx hw
  · match vs, hl, I2 with
    | [y], _, I2 =>
      obtain ⟨G, F1, F2, J⟩ := I2
      obtain ⟨Fy, ry⟩ := Si.top (ws := (x, a1) :: ws) J hg2
      obtain ⟨Fx, rx⟩ := Si.next (ws := ws) J hg1
      refine hg G H2 u v x y Fx Fy w J.ex rx ry hw Q fun z H' G' F' gr rv => ?_
      obtain ⟨F2', _, J'⟩ := Si.drop (ws := (x, a1) :: ws) J
      obtain ⟨F3', _, J''⟩ := Si.drop (ws := ws) J'
      exact q z H' (J''.push gr rv).SI
def rTIndexD (K : PySem.W.Frag) : V → List V → Hp → VK → Prop := fun x xs H Q => ∃ (a : Addr) (y : V) (d : PyData) (ds : List PyData) (j : Nat) (z : PyData), x = V.ref a ∧ xs = [y] ∧ Dp K H (V.ref a) (.tuple ds) ∧ Dp K H y d ∧
  SeqAt.shaped (.tuple ds) = true ∧ SeqAt.shaped d = true ∧ ds[j]? = some z ∧ PyData.eqv z d = true ∧ (∀ (m : Nat) (z' : PyData), m < j → ds[m]? = some z' → PyData.eqv z' d = false) ∧ Q (.int (j : Nat)) H
theorem mt_tindexD (hu : X.A.units + 65 < cLine) : MtR X "tuple.index" (rTIndexD X.K) := by
  intro pins s σ H x xs v us Q I rx rxs h
  obtain ⟨a, y, d, ds, j, z, rfl, rfl, hl, hy, sl, sd, hz, hzj, hno, q⟩ := h
  cases rx
  cases rxs with
  | cons ry rt =>
    rename_i uy ut
    cases rt
    obtain ⟨bs, r1⟩ := Dp.reads I d y uy hy ry
    have hxs : PyData.canLayAll0 ds = true := SeqAt.canLay_of_shaped sl
    have hroom : X.A.units + 1 + min (PyData.depthAll ds) d.depth < cLine := room_in_shaped sd hu
    cases hl with
    | tup hs ha =>
      obtain ⟨its, rv, ⟨⟨cls, dd, data, sls⟩, ho, hc, n, hdt⟩, hlen⟩ := I.tuple hs
      simp only at hc hdt
      subst hc hdt
      obtain ⟨as, h4⟩ := Dp.readsAll I ds _ its ha rv
      have hn : its.length = ds.length := SeqAt.ReadsAll.length ds its as h4
      have hmap : its.map (SeqAt.readOf s.heap) = ds := SeqAt.readsAll_map ds its as hxs h4
      have hvl := rv.length
      have hsl := sizeLine_eq
      obtain ⟨hjd, _⟩ := List.getElem?_eq_some_iff.mp hz
      have hjl : j < its.length := by omega
      have hj : j < its.toArray.size := by simpa using hjl
      have at_ : ∀ (m : Nat) (hm : m < its.toArray.size) (z' : PyData), ds[m]? = some z' → SeqAt.readOf s.heap its.toArray[m] = z' := by
        intro m hm z' hz'
        have hml : m < its.length := by simpa using hm
        rw [← hmap, List.getElem?_map, List.getElem?_eq_getElem hml] at hz'
        have e1 : SeqAt.readOf s.heap its[m] = z' := Option.some.inj (show some (SeqAt.readOf s.heap its[m]) = some z' from hz')
        simpa using e1
      refine call_meets PySem.F.slot_tuple_index ⟨_, ho, rfl⟩ PySem.F.entry_tuple_index (PySem.F.args_tuple_index_2 _ _)
        (TI.tuple_indexAt a its.toArray n dd sls uy (fun u => PyData.eqv (SeqAt.readOf s.heap u) d) j hj ?_ ?_) ⟨ho, SeqAt.items_eqAt (vs := its.toArray) (show ReadsAll s.heap its.toArray.toList ds as from h4) r1 hxs (SeqAt.canLay_of_shaped sd) hroom, ?_⟩
      · show PyData.eqv (SeqAt.readOf s.heap its.toArray[j]) d = true
        rw [at_ j hj z hz]
        exact hzj
      · intro m hm hmj
        have hmd : m < ds.length := by omega
        have hz' : ds[m]? = some ds[m] := List.getElem?_eq_getElem hmd
        show PyData.eqv (SeqAt.readOf s.heap its.toArray[m]) d = false
        rw [at_ m hm _ hz']
        exact hno m _ hmj hz'
      · exact ⟨.int (j : Nat), H, I.tok _, ⟨_, rfl⟩, q⟩
def idxP (d : PyData) : List PyData → Nat → Option Nat
  | [], _ => none
  | z :: zs, i => if PyData.eqv z d = true then some i else idxP d zs (i + 1)
theorem idxP_spec {d : PyData} : ∀ (zs : List PyData) (i j : Nat), idxP d zs i = some j → ∃ z, i ≤ j ∧ zs[j - i]? = some z ∧ PyData.eqv z d = true ∧ ∀ (m : Nat) (z' : PyData), i + m < j → zs[m]? = some z' → PyData.eqv z' d = false
  | [], i, j, h => by cases h
  | z :: zs, i, j, h => by
    unfold idxP at h
    split at h
    · rename_i he
      cases h
      exact ⟨z, Nat.le_refl _, by simp, he, fun m z' hm _ => absurd hm (by omega)⟩
    · rename_i he
      obtain ⟨y, h1, h2, h3, h4⟩ := idxP_spec zs (i + 1) j h
      refine ⟨y, by omega, ?_, h3, fun m z' hm hz => ?_⟩
      · have : j - i = (j - (i + 1)) + 1 := by omega
        rw [this, List.getElem?_cons_succ]; exact h2
      · cases m with
        | zero => simp at hz; subst hz; simpa using he
        | succ m => exact h4 m z' (by omega) (by simpa using hz)
def gTIndex : W → W → Option W
  | (_, .ktp ds), (j, d) => if eqOk (j, d) = true then (toPys ds).bind fun ps => (toPy d).bind fun p => if SeqAt.shaped (.tuple ps) = true ∧ SeqAt.shaped p = true then (idxP p ps 0).map fun n => (0, .int (n : Nat)) else none else none
  | _, _ => none
theorem g_tindex : Op2 K (fun x y H Q => rTIndexD K x [y] H Q) gTIndex := by
  intro G H u v x y Fu Fv w e ru rv hw
  unfold gTIndex at hw
  split at hw
  · split at hw
    · rename_i hk
      obtain ⟨ps, hps, hw⟩ := Option.bind_eq_some_iff.mp hw
      obtain ⟨p, hp, hw⟩ := Option.bind_eq_some_iff.mp hw
      split at hw
      · rename_i ok
        obtain ⟨n, hn, rfl⟩ := Option.map_eq_some_iff.mp hw
        obtain ⟨a, xs, rfl, h1, h2⟩ := ru.ktp
        obtain ⟨z, _, hz, he, hno⟩ := idxP_spec ps 0 n hn
        exact Res.pure (v := .int _) e rfl fun Q q => ⟨a, y, p, ps, n, z, rfl, rfl, .tup (same_t e h1.sq) (dps_of e _ ps xs hps h2), dp_ro e hk hp rv, ok.1, ok.2, by simpa using hz, he, fun m z' hm hz' => hno m z' (by omega) hz', q⟩
      · cases hw
    · cases hw
  · cases hw
theorem e_tindex {apos cpos : Pos} (hu : X.A.units + 65 < cLine) (ha : OkE X a A) (hb : OkE X b B) (hfew : ((backTo cpos (starEach (b :: []) X.env)).all (fun x => !x.1) && (backToKw cpos (keywordEach [] X.env)).all (fun x => x.1.isSome)
      && decide ((b :: []).length + ([] : List Keyword).length + (if ([] : List Keyword).isEmpty then 0 else 1) < 30)) = true := by rfl) (hbase : attributeBase a "index" X.env (eval a X.env) = eval a X.env := by rfl)
    (hline : (apos.endLine == cpos.line) = true := by rfl) (hs : starEach (b :: []) X.env = (false, eval b X.env) :: starEach [] X.env := by rfl) : OkE X (.Call (.Attribute a "index" apos) [b] [] cpos) (pOp2 gTIndex A B) :=
  PE.imp (pe_bmT PySem.F.slot_tuple_index PySem.F.type_tuple_index (mt_tindexD hu) ha (a_cons hb a_nil hs) hbase hfew hline hs (by rfl)) (bm1_imp g_tindex fun G H u v x F w e ru hw => by
    unfold gTIndex at hw
    split at hw
    · obtain ⟨a, xs, rfl, h1, h2⟩ := ru.ktp
      exact ⟨a, xs, rfl, h1.mono e⟩
    · cases hw)
/-! ### tuple * int -/
theorem tuple_mul1 (l : Addr) (items : Array Value) (n : Nat) (dd : Option Addr) (sl : Array (Option Value)) (u : Tok) :
    Meets (Builtin.«tuple.__mul__» ⟨[.ref l, .int 1 u], []⟩) (fun _ R s => s.heap.get? l = some { cls := .type "tuple", dict := dd, data := .seq items n, slots := sl } ∧ R (.ok (.ret (Value.ref l))) s) :=
  .of_wp fun prog w A R s h => by
    obtain ⟨hp, g, d, tk, os⟩ := s
    obtain ⟨hl, h⟩ := h
    have f1 := AutoSeq1.idx_int
    wp_walk using wpAny_loadPart' hl
    repeat (first
      | (refine wpAny_ite_false (decide_eq_false (by decide)) ?_; wp_walk using wpAny_loadPart' hl)
      | (refine wpAny_ite_true (decide_eq_true (by simp)) ?_; wp_walk using wpAny_loadPart' hl))
    exact ⟨_, rfl, h⟩
theorem tuple_mul0 (l : Addr) (items : Array Value) (n : Nat) (dd : Option Addr) (sl : Array (Option Value)) (u : Tok) (c1 : (items.isEmpty || (0 : Int) == 1) = false) :
    Meets (Builtin.«tuple.__mul__» ⟨[.ref l, .int 0 u], []⟩) (fun _ R s => s.heap.get? l = some { cls := .type "tuple", dict := dd, data := .seq items n, slots := sl } ∧
      R (.ok (.ret (Value.ref s.heap.objs.size))) { s with heap := s.heap.push { cls := Value.type "tuple", data := Data.seq #[] }, toks := s.toks }) :=
  .of_wp fun prog w A R s h => by
    obtain ⟨hp, g, d, tk, os⟩ := s
    obtain ⟨hl, h⟩ := h
    have f1 := AutoSeq1.idx_int
    wp_walk using wpAny_loadPart' hl
    repeat (first
      | (refine wpAny_ite_false (decide_eq_false (by decide)) ?_; wp_walk using wpAny_loadPart' hl)
      | (refine wpAny_ite_false (decide_eq_false (by rw [c1]; exact Bool.false_ne_true)) ?_; wp_walk using wpAny_loadPart' hl)
      | (refine wpAny_ite_true (decide_eq_true (by simp)) ?_; wp_walk using wpAny_loadPart' hl))
    exact ⟨_, rfl, h⟩
def rRep01 (K : PySem.W.Frag) : R2 := fun x y H Q => ∃ l k xs, x = .ref l ∧ y = .int k ∧ SqT K H l xs ∧ ((k = 1 ∧ Q (.ref l) H) ∨ (k = 0 ∧ xs ≠ [] ∧ ∀ p, H p = none → Q (.ref p) (upd H p (.tup []))))
theorem op_rep01 : OpR X (binaryOp .Mult) (rRep01 X.K) := by
  intro pins s σ H x y v u Q I rx ry h
  obtain ⟨l, k, xs, rfl, rfl, hT, q⟩ := h
  cases rx
  obtain ⟨t, rfl⟩ := ry
  obtain ⟨its, r, ⟨⟨cls, dd, data, sl⟩, ho, hc, n, hd⟩, hs⟩ := I.tuple hT
  simp only at hc hd
  subst hc hd
  have hle : its.length = xs.length := r.length.symm
  refine wpAny_binaryOp_repeat_ref (T := "tuple") (U := "int") (by decide) ⟨_, ho, rfl⟩ (fun s' => typeIs_int s' k t) noFill_tuple_mul F.fills_int_mul F.slot_int_rmul repeat_tuple F.slot_int_index.lookup
    (call_meets F.slot_int_rmul (typeIs_int s k t) F.entry_int_rmul (F.args_int_rmul_2 _ _) (int_rmul_tuple k t l its.toArray n dd sl) ⟨ho, rfl, ⟨_, ho, rfl⟩, ?_⟩)
  rcases q with ⟨rfl, q⟩ | ⟨rfl, hne, q⟩
  · exact call_meets F.slot_tuple_mul ⟨_, ho, rfl⟩ F.entry_tuple_mul (F.args_tuple_mul_2 _ _) (tuple_mul1 l its.toArray n dd sl t) ⟨ho, .ref l, H, I, rfl, q⟩
  · have hi : its.toArray.isEmpty = false := by
      cases its with
      | nil => exact absurd (List.eq_nil_of_length_eq_zero hle.symm) hne
      | cons a b => rfl
    refine call_meets F.slot_tuple_mul ⟨_, ho, rfl⟩ F.entry_tuple_mul (F.args_tuple_mul_2 _ _) (tuple_mul0 l its.toArray n dd sl t (by rw [hi]; rfl)) ⟨ho, ?_⟩
    refine ⟨.ref s.heap.objs.size, _, I.laid (t' := s.toks) (o := .tup []) (fun b ob q => Heap.get?_push_of_some _ q) (Nat.le_refl _) ⟨Nat.zero_le _, [], .nil, IsTup.new _ _⟩, rfl, q _ (I.hok.fresh (Nat.le_refl _))⟩
def gMulT : W → W → Option W
  | (_, .tup ds), (_, .int k) => if k = 1 then some (0, .tup ds) else if k = 0 ∧ ds ≠ [] then some (0, .tup []) else none
  | _, _ => none
theorem g_mulT : Op2 K (rRep01 K) gMulT := by
  intro G H u v x y Fu Fv w e ru rv hw
  unfold gMulT at hw
  split at hw
  · obtain rfl := rv.int
    obtain ⟨a, xs, rfl, h1, h2⟩ := ru.tupE
    split at hw
    · rename_i hk
      cases hw
      exact Res.pure e ⟨a, xs, rfl, h1, h2⟩ fun Q q => ⟨a, _, xs, rfl, rfl, SqT.of (e _ _ h1), .inl ⟨hk, q⟩⟩
    · split at hw
      · rename_i hk
        cases hw
        refine Res.tup (xs := []) e rfl fun Q q => ⟨a, _, xs, rfl, rfl, SqT.of (e _ _ h1), .inr ⟨hk.1, fun z => hk.2 ?_, q⟩⟩
        have := h2.len
        rw [z] at this
        exact List.eq_nil_of_length_eq_zero this.symm
      · cases hw
  · cases hw
/-! ### a dict of the module: text keys -/
def kget : List (Str × D) → Str → Option D
  | [], _ => none
  | p :: r, z => if p.1 = z then some p.2 else kget r z
/-- the name x of the module: a dict of texts to ints or texts -/
structure KD (X : Cx) (x : Str) (kc : List (Str × D)) : Prop where
  ex : ∃ d es n, X.mg x = some (.ref d) ∧ KDict X.K X.w d es n ∧ ∀ z, match kget kc z with
    | none => PySem.W.nsIn X.K d z = some none
    | some v => ∃ u x, PySem.W.nsIn X.K d z = some (some u) ∧ RelV x u ∧ ∀ G, RepF X.K G v x
def gKGet (kc : List (Str × D)) : W → Option W
  | (_, .str z) => (kget kc z).map fun v => (0, v)
  | _ => none
def gKIn (neg : Bool) (kc : List (Str × D)) : W → Option W
  | (_, .str z) => some (0, .bl (neg != (kget kc z).isSome))
  | _ => none
theorem e_kget {x : Str} {p : Pos} {kc : List (Str × D)} (k : KD X x kc) (hg : Gl X x) (hb : OkE X b B) (hs : PlainIx b := by exact fun _ _ => rfl) (hdb : (x == ("__debug__" : Str)) = false := by decide) : OkE X (.Subscript (.Name x p) b pos) (pOp1 (gKGet kc) B) := by
  obtain ⟨d, es, n, hm, hk, hz⟩ := k.ex
  refine PE.imp (pe_ix ix_kdict (pe_glob (v := .ref d) hg hm rfl hdb) hb hs) fun σ H Q h => ?_
  refine op1_imp (r := fun y H Q => rIxD X.K X.w (.ref d) y H Q) ?_ σ H Q h
  intro G H u y Fu w e ru hw
  unfold gKGet at hw
  split at hw
  · rename_i z
    obtain ⟨v, hv, rfl⟩ := Option.map_eq_some_iff.mp hw
    obtain rfl := ru.str
    have := hz z
    rw [hv] at this
    obtain ⟨u0, x0, h1, h2, h3⟩ := this
    exact Res.pure e (h3 G) fun Q q => ⟨d, z, x0, rfl, rfl, ⟨es, n, u0, hk.at_, hk.lit, h1, h2⟩, q⟩
  · cases hw
theorem kin_core {d : Addr} {kc : List (Str × D)} {z : Str} (hz : match kget kc z with
    | none => PySem.W.nsIn K d z = some none
    | some v => ∃ u x, PySem.W.nsIn K d z = some (some u) ∧ RelV x u ∧ ∀ G, RepF K G v x) : ∃ r, PySem.W.nsIn K d z = some r ∧ r.isSome = (kget kc z).isSome := by
  cases hv : kget kc z with
  | none => rw [hv] at hz; exact ⟨none, hz, rfl⟩
  | some v => rw [hv] at hz; obtain ⟨u, x, h, _⟩ := hz; exact ⟨some u, h, rfl⟩
theorem e_kin {x : Str} {p : Pos} {kc : List (Str × D)} (k : KD X x kc) (hg : Gl X x) (ha : OkE X a A) (hdb : (x == ("__debug__" : Str)) = false := by decide) (hm : behindInMarks .In (.Name x p) = false := by rfl) : OkE X (.Compare a [.In] [.Name x p] pos) (pOp1 (gKIn false kc) A) := by
  obtain ⟨d, es, n, hm', hk, hz⟩ := k.ex
  refine PE.imp (pe_cmpR (op_in_kd hk) ha (pe_glob (v := .ref d) hg hm' rfl hdb) hm) fun σ H Q h => ?_
  refine op1_imp (r := fun y H Q => ∃ (z : Str) (r : Option Value), y = .str z ∧ V.ref d = .ref d ∧ PySem.W.nsIn X.K d z = some r ∧ Q (.bl r.isSome) H) ?_ σ H Q h
  intro G H u y Fu w e ru hw
  unfold gKIn at hw
  split at hw
  · rename_i z
    cases hw
    obtain rfl := ru.str
    obtain ⟨r, h1, h2⟩ := kin_core (hz z)
    exact Res.pure (v := .bl r.isSome) e (by show V.bl _ = V.bl _; rw [h2, Bool.false_bne]) fun Q q => ⟨z, r, rfl, rfl, h1, q⟩
  · cases hw
theorem e_knotin {x : Str} {p : Pos} {kc : List (Str × D)} (k : KD X x kc) (hg : Gl X x) (ha : OkE X a A) (hdb : (x == ("__debug__" : Str)) = false := by decide) (hm : behindInMarks .NotIn (.Name x p) = false := by rfl) : OkE X (.Compare a [.NotIn] [.Name x p] pos) (pOp1 (gKIn true kc) A) := by
  obtain ⟨d, es, n, hm', hk, hz⟩ := k.ex
  refine PE.imp (pe_cmpR (op_notIn_kd hk) ha (pe_glob (v := .ref d) hg hm' rfl hdb) hm) fun σ H Q h => ?_
  refine op1_imp (r := fun y H Q => ∃ (z : Str) (r : Option Value), y = .str z ∧ V.ref d = .ref d ∧ PySem.W.nsIn X.K d z = some r ∧ Q (.bl (!r.isSome)) H) ?_ σ H Q h
  intro G H u y Fu w e ru hw
  unfold gKIn at hw
  split at hw
  · rename_i z
    cases hw
    obtain rfl := ru.str
    obtain ⟨r, h1, h2⟩ := kin_core (hz z)
    exact Res.pure (v := .bl (!r.isSome)) e (by show V.bl _ = V.bl _; rw [h2, Bool.true_bne]) fun Q q => ⟨z, r, rfl, rfl, h1, q⟩
  · cases hw
/-- D.get(k, z) -/
def tKGet2 (X : Cx) (d : Addr) (ty tx : TE) : TE := fun σ H Q => ty σ H fun y H2 => tx σ H2 fun z H3 => ∃ (k : Str) (r : Option Value), y = .str k ∧ PySem.W.nsIn X.K d k = some r ∧ ((r = none ∧ Q z H3) ∨ ∃ u x, r = some u ∧ RelV x u ∧ Q x H3)
theorem pe_kget2 {x : Str} {p : Pos} {f : Expr} {apos cpos : Pos} {d : Addr} {es : Array DictEntry} {n : Nat} {ty tx : TE} (hk : KDict X.K X.w d es n) (hg : Gl X x) (hm : X.mg x = some (.ref d)) (he : PE X e ty) (hf : PE X f tx) (m : M2 X (.Name x p) "get" apos e f cpos) (hdb : (x == ("__debug__" : Str)) = false) :
    PE X (.Call (.Attribute (.Name x p) "get" apos) [e, f] [] cpos) (tKGet2 X d ty tx) := by
  refine ⟨fun pins s σ H Q I h => ?_⟩
  refine wpAny_Call_method m.base m.few m.line PySem.F.plainAttrs_dict PySem.F.slot_dict_get PySem.F.type_dict_get (thn ((pe_glob (v := .ref d) hg hm rfl hdb).run pins s σ H (fun v H' => v = .ref d ∧ tKGet2 X d ty tx σ H' Q) I ⟨rfl, h⟩) fun u s1 ⟨x, H1, I1, rx, ex, q1⟩ => ?_)
  subst ex
  obtain rfl : u = Value.ref d := rx
  refine ⟨kd_type hk I1, fun b q => ?_, ?_⟩
  · cases q
    exact ⟨_, I1.kIn d _ hk.at_, rfl⟩
  rw [m.trees]
  refine Calls.callWith_builtin rfl (Calls.evalArgs_plain (Calls.spliced_cons (thn (he.run pins s1 σ H1 _ I1 q1) fun iv s2 ⟨y, H2, I2, ry, q2⟩ =>
    Calls.spliced_cons (thn (hf.run pins s2 σ H2 _ I2 q2) fun fv s3 ⟨z, H3, I3, rz, k, r, ey, hr, q3⟩ => Calls.spliced_nil ?_))))
  subst ey
  obtain ⟨t, rfl⟩ := ry
  refine call_meetsIn PySem.F.slot_dict_get (kd_type hk I3) PySem.F.entry_dict_get (PySem.F.args_dict_get_3 _ _ _) (meets_dict_get_default (strKind X.prog X.w) d (PySem.strKind_is X.prog X.w k t) hk.low fv) ⟨_, PySem.W.mapOf_K (prog := X.prog) (w := X.w) I3.kIn hk.at_ hk.lit, ?_⟩
  show EP X pins σ Q ((findBy Value.isStrOf es k).getD fv) _
  rw [PySem.W.find_K hk.at_ hr]
  rcases q3 with ⟨rfl, q3⟩ | ⟨u, x, rfl, ru, q3⟩
  · exact ⟨z, H3, I3.tok _, rz, q3⟩
  · exact ⟨x, H3, I3.tok _, ru, q3⟩
def pKGet2 (kc : List (Str × D)) (B C : Fe) : Fe := fun ρ => (val B ρ).bind fun v => (C ρ).bind fun c => match v.2, c with
  | .str z, .v _ d => some (.v 0 ((kget kc z).getD d))
  | _, _ => none
theorem e_kget2 {x : Str} {p : Pos} {kc : List (Str × D)} {apos cpos : Pos} (k : KD X x kc) (hg : Gl X x) (hb : OkE X b B) (hc : OkE X c C) (m : M2 X (.Name x p) "get" apos b c cpos := by exact ⟨rfl, rfl, rfl, rfl⟩) (hdb : (x == ("__debug__" : Str)) = false := by decide) :
    OkE X (.Call (.Attribute (.Name x p) "get" apos) [b, c] [] cpos) (pKGet2 kc B C) := by
  obtain ⟨d, es, n, hm, hk, hz⟩ := k.ex
  refine PE.imp (pe_kget2 hk hg hm hb hc m hdb) fun σ H Q ⟨G0, ρ, ws, x, I, hf, q⟩ => ?_
  obtain ⟨⟨k1, dv⟩, hv, hf1⟩ := Option.bind_eq_some_iff.mp hf
  obtain ⟨c, hc, hf2⟩ := Option.bind_eq_some_iff.mp hf1
  clear hf hf1
  cases dv <;> first | (cases hf2; done) | skip
  rename_i z
  cases c with
  | r j => cases hf2
  | v k2 cd =>
    cases hf2
    obtain ⟨a2, hb, hg2⟩ := val_some hv
    refine ⟨G0, ρ, ws, a2, I, hb, fun y H2 I2 => ⟨G0, ρ, (y, a2) :: ws, .v k2 cd, I2, hc, fun z' H3 I3 => ?_⟩⟩
    obtain ⟨G, F1, F2, J⟩ := I3
    obtain ⟨G', F3, J1, e1, rz⟩ := J.freeze
    obtain ⟨Fy, ry⟩ := Si.top (ws := ws) J1 hg2
    obtain ⟨F4, _, J2⟩ := Si.drop (ws := ws) J1
    obtain rfl := RO.str ry
    have := hz z
    cases hk2 : kget kc z with
    | none =>
      rw [hk2] at this q
      exact ⟨z, none, rfl, this, .inl ⟨rfl, q _ _ (J2.pushF rz).SI⟩⟩
    | some v =>
      rw [hk2] at this q
      obtain ⟨u, x, h1, h2, h3⟩ := this
      exact ⟨z, some u, rfl, h1, .inr ⟨u, x, rfl, h2, q _ _ (J2.pushF (h3 G')).SI⟩⟩
/-! ### sorted(d) -/
def pSortedD (A : Fe) : Fe := fun ρ => (val A ρ).bind fun u => match u with
  | (k, .dct t kvs) => if k ≤ 1 then (sortD (kvs.map fun p => keyDat t p.1)).map fun w => .v w.1 w.2 else none
  | _ => none
theorem e_sortedD {p : Pos} (hcalm : X.calm = true) (hu : X.A.units + 64 < cLine) (hg : Gl X "sorted") (hm : X.mg "sorted" = none) (ha : OkE X a A) (hs : starEach (a :: []) X.env = (false, eval a X.env) :: starEach [] X.env := by rfl) : OkE X (.Call (.Name "sorted" p) [a] [] pos) (pSortedD A) :=
  PE.imp (pe_callB (cr_sortedDG hcalm hu) hg hm (by rfl) (a_cons ha a_nil hs) (by decide) (by decide) hs (by rfl)) fun σ H Q ⟨G0, ρ, ws, x, I, hf, q⟩ => by
  obtain ⟨⟨k, dv⟩, hv, hf1⟩ := Option.bind_eq_some_iff.mp hf
  clear hf
  cases dv <;> first | (cases hf1; done) | skip
  rename_i t kvs
  simp only at hf1
  split at hf1
  · rename_i hk
    obtain ⟨w, hw, rfl⟩ := Option.map_eq_some_iff.mp hf1
    obtain ⟨ps, hp, hw⟩ := Option.bind_eq_some_iff.mp hw
    split at hw
    · rename_i ok
      cases hw
      refine val1 I hv fun v H1 G F1 F2 Fx J rx => ?_
      obtain ⟨a, xs, rfl, h1, h2, h3⟩ := rx.dct1 J.ex hk
      refine ⟨G, t, kvs, ps, a, xs, rfl, J.ex, J.tu, h1, h2, h3, hp, ok.1, by simpa using ok.2, fun p ys hp' hy => ?_⟩
      have g := Grow.newO (o := .lst ys) J.ex hp' trivial
      exact q _ _ (J.push (k := 1) (d := .lst _) g ⟨p, ys, [], rfl, upd_same, rfl, ROs.of_F hy⟩).SI
    · cases hw
  · cases hf1
end
end Pv
set_option Elab.async false
set_option linter.all false
set_option maxRecDepth 100000
/-! P16: extend, pop, setdefault(..).append, {k: v} -/
namespace Pv
open PySem PySem.Spec PyProof.Rows L2
section
variable {X : Cx} {K : PySem.W.Frag} {G0 G G1 G' H H' : Hp} {σ : L2.St} {ρ : Env} {ws : List (V × Arg)} {F F1 F2 : List Addr} {e a b c tg : Expr} {es : List Expr} {pos : Pos} {A B C : Fe}
theorem Si.updO {i : Nat} {p : Addr} {o : HO} {w w' : W} {v : V} {pre : List (V × Arg)} {Fa F' F'' Fb : List Addr} (I : Si K G0 σ ρ pre H G (Fa ++ (p :: F') ++ Fb) F2) (ho : isOwn o)
    (hs : ∀ (G' H' : Hp) (w' : W) (Fi' : List Addr), Same G G' → (∀ b ∈ Fa ++ Fb, H' b = H b) → RO K G' H' w'.1 w'.2 v Fi' → RSl K G' H' σ (ρ.set i (some w')) (Fa ++ Fi' ++ Fb))
    (nd : F''.Nodup) (sub : ∀ b ∈ F'', b ∈ F' ∨ b ∈ F2) (r : RO K G (upd H p o) w'.1 w'.2 v (p :: F'')) : Si K G0 σ (ρ.set i (some w')) [] (upd H p o) G (Fa ++ (p :: F'') ++ Fb) [] := by
  have n := I.nd
  have fr := I.fr
  simp only [List.nodup_append, List.mem_append, List.nodup_cons, List.mem_cons, List.cons_append] at n fr
  obtain ⟨⟨⟨n1, ⟨n2, n3⟩, n4⟩, n5, n6⟩, n7, n8⟩ := n
  have hp : ∀ b, b ∈ Fa ∨ b ∈ Fb → b ≠ p := fun b hb z => by
    subst z
    rcases hb with hb | hb
    · exact n4 b hb b (.inl rfl) rfl
    · exact n6 b (.inr (.inl rfl)) b hb rfl
  have hG : G p = none := fr p (by simp)
  refine ⟨I.ex0, fun b u q => ?_, hs G _ w' (p :: F'') (Same.refl _) (fun b hb => upd_ne (hp b (by simpa using hb))) r, rfl, ?_, fun b hb => ?_, fun b u q1 q2 => ?_, by rw [List.length_set]; exact I.ln⟩
  · rw [upd_ne (ne_of_none q hG)]; exact I.ex b u q
  · simp only [List.nodup_append, List.mem_append, List.nodup_cons, List.mem_cons, List.cons_append, List.append_nil]
    refine ⟨⟨n1, ⟨fun z => ?_, nd⟩, fun x hx y hy e => ?_⟩, n5, fun x hx y hy e => ?_⟩
    · rcases sub p z with q | q
      · exact n2 q
      · exact n8 p (.inl (.inr (.inl rfl))) p q rfl
    · subst e
      rcases hy with hy | hy
      · exact n4 x hx x (.inl hy) rfl
      · rcases sub x hy with q | q
        · exact n4 x hx x (.inr q) rfl
        · exact n8 x (.inl (.inl hx)) x q rfl
    · subst e
      rcases hx with hx | hx | hx
      · exact n6 x (.inl hx) x hy rfl
      · exact n6 x (.inr (.inl hx)) x hy rfl
      · rcases sub x hx with q | q
        · exact n6 x (.inr (.inr q)) x hy rfl
        · exact n8 x (.inr hy) x q rfl
  · apply fr
    simp only [List.mem_append, List.mem_cons, List.append_nil, List.cons_append] at hb
    rcases hb with (hb | hb | hb) | hb
    · exact .inl (.inl (.inl hb))
    · exact .inl (.inl (.inr (.inl hb)))
    · rcases sub b hb with q | q
      · exact .inl (.inl (.inr (.inr q)))
      · exact .inr q
    · exact .inl (.inr hb)
  · by_cases hb : b = p
    · subst hb; rw [upd_same] at q1; cases q1; exact absurd ho q2
    · rw [upd_ne hb] at q1; exact I.tu b u q1 q2
/-- x.extend(e), x in slot i a list of frozen items -/
def sExt (i : Nat) (A : Fe) : Fs := fun ρ => match (ρ[i]?).join with
  | some (1, .lst ds) => (A ρ).bind fun a => match a with
    | .v _ (.lst cs) => if ds.length + cs.length ≤ big then some (.nx, ρ.set i (some (1, .lst (ds ++ cs)))) else none
    | _ => none
  | _ => none
theorem s_ext {i : Nat} {x : Str} {p apos cpos : Pos} (he : OkE X e A) (hN : X.N[i]? = some x := by rfl) (hv : Vis X.env.scope x := by first | exact Or.inl rfl | exact Or.inr (Or.inl rfl) | exact Or.inr (Or.inr rfl)) (hd : (x == ("__debug__" : Str)) = false := by decide) (hcd : (x == ("__classdict__" : Str)) = false := by decide)
    (hfew : ((backTo cpos (starEach [e] X.env)).all (fun x => !x.1) && (backToKw cpos (keywordEach [] X.env)).all (fun x => x.1.isSome) && decide ([e].length + ([] : List Keyword).length + (if ([] : List Keyword).isEmpty then 0 else 1) < 30)) = true := by rfl)
    (hline : (apos.endLine == cpos.line) = true := by rfl) (hs : starEach [e] X.env = (false, eval e X.env) :: starEach [] X.env := by rfl) (hsw : swapsWith (.Call (.Attribute (.Name x p) "extend" apos) [e] [] cpos) none pos.line X.env = pure false := by rfl) :
    OkS X (.Expr (.Call (.Attribute (.Name x p) "extend" apos) [e] [] cpos) pos) (sExt i A) :=
  PS.imp (ps_expr (pe_bm PySem.F.plainAttrs_list PySem.F.slot_list_extend PySem.F.type_list_extend mt_extend (pe_var hN hv hd hcd) (pa_cons he pa_nil hs) (by rfl) hfew hline hs (by rfl)) hsw) fun D σ H ⟨G0, ρ, fl, ρ', I, hf, post⟩ => by
  unfold sExt at hf
  split at hf
  · rename_i ds hw
    have hρ := join_some hw
    obtain ⟨a, ha, hf1⟩ := Option.bind_eq_some_iff.mp hf
    clear hf
    split at hf1
    · rename_i k cs
      split at hf1
      · rename_i hz
        cases hf1
        have hx : ∃ p xs, σ[i]? = some (some (.ref p)) ∧ H p = some (.lst xs) := by
          obtain ⟨G, F1, F2, J⟩ := I
          obtain ⟨v, Fi, h1, h2, _⟩ := J.sl.at hρ
          obtain ⟨p, xs, rfl, h3, _⟩ := RO.lstN J.ex h2
          exact ⟨p, xs, h1, h3⟩
        obtain ⟨p, xs, h1, h2⟩ := hx
        refine ⟨.ref p, h1, .inl ⟨rfl, xs, SqL.of h2⟩, G0, ρ, [], _, I, ha, fun y H1 I1 => ?_⟩
        obtain ⟨G, F1, F2, J⟩ := I1
        obtain ⟨G2, F4, J2, e2, r2⟩ := J.freeze
        obtain ⟨q, zs, rfl, h3, h4⟩ := r2
        obtain ⟨v, Fa, Fi, Fb, e1, q1, q2, q3⟩ := J2.slot hρ
        rw [h1] at q1
        cases q1
        obtain ⟨p', xs', F', q0, q4, rfl, q5⟩ := q2
        cases q0
        subst e1
        obtain ⟨h6, h7⟩ := ROs.to_F q5
        subst h7
        refine ⟨p, q, xs', zs, rfl, rfl, q4, J2.ex _ _ h3, by rw [h6.len, h4.len]; exact big_line hz, post _ _ ?_⟩
        exact (Si.updO (w := (1, .lst ds)) (w' := (1, .lst (ds ++ cs))) (F'' := []) (o := .lst _) J2 trivial q3 List.nodup_nil (fun b hb => by cases hb) ⟨p, xs' ++ zs, [], rfl, upd_same, rfl, ROs.of_F (h6.append h4)⟩).SI
      · cases hf1
    · cases hf1
  · cases hf
/-! ### pop() -/
theorem RepFs.dropLast : ∀ {ds : List D} {xs : List V}, RepFs K G ds xs → RepFs K G ds.dropLast xs.dropLast
  | [], _, h => by rw [show _ = [] from h]; exact (rfl : ([] : List V) = [])
  | [d], _, ⟨x, r, h1, h2, h3⟩ => by rw [h1, show r = [] from h3]; exact (rfl : ([] : List V) = [])
  | d :: d' :: ds, _, ⟨x, r, h1, h2, h3⟩ => by
    obtain ⟨x', r', rfl, h4, h5⟩ := h3
    subst h1
    exact ⟨x, _, rfl, h2, RepFs.dropLast ⟨x', r', rfl, h4, h5⟩⟩
theorem pop_core {i : Nat} {ds : List D} {d : D} (I : SI K G0 σ ρ [] H) (hρ : ρ[i]? = some (some (1, .lst ds))) (hd : ds[ds.length - 1]? = some d) :
    ∃ p xs y, σ[i]? = some (some (.ref p)) ∧ H p = some (.lst xs) ∧ xs[xs.length - 1]? = some y ∧ ∃ G F1 F2, Si K G0 σ (ρ.set i (some (1, .lst ds.dropLast))) [] (upd H p (.lst xs.dropLast)) G F1 F2 ∧ RepF K G d y := by
  obtain ⟨G, F1, F2, J⟩ := I
  obtain ⟨v, Fa, Fi, Fb, e1, q1, q2, q3⟩ := J.slot hρ
  obtain ⟨p, xs, F', rfl, q4, rfl, q5⟩ := q2
  subst e1
  obtain ⟨h6, h7⟩ := ROs.to_F q5
  subst h7
  obtain ⟨y, hy, ry⟩ := h6.get hd
  exact ⟨p, xs, y, q1, q4, by rw [h6.len]; exact hy, G, _, _, Si.updO (w := (1, .lst ds)) (w' := (1, .lst ds.dropLast)) (F'' := []) (o := .lst _) J trivial q3 List.nodup_nil (fun b hb => by cases hb) ⟨p, xs.dropLast, [], rfl, upd_same, rfl, ROs.of_F h6.dropLast⟩, ry⟩
/-- y = x.pop() -/
def sPop (i j : Nat) : Fs := fun ρ => match (ρ[i]?).join with
  | some (1, .lst ds) => (ds[ds.length - 1]?).bind fun d => if j < ρ.length then some (.nx, (ρ.set i (some (1, .lst ds.dropLast))).set j (some (0, d))) else none
  | _ => none
theorem s_pop {i j : Nat} {x y : Str} {p py apos cpos : Pos} (hN : X.N.Nodup) (hi : X.N[i]? = some x := by rfl) (hj : X.N[j]? = some y := by rfl) (hv : Vis X.env.scope x := by first | exact Or.inl rfl | exact Or.inr (Or.inl rfl) | exact Or.inr (Or.inr rfl)) (hd : (x == ("__debug__" : Str)) = false := by decide) (hcd : (x == ("__classdict__" : Str)) = false := by decide)
    (hx : Loc X.env.scope y := by first | exact Or.inl rfl | exact Or.inr rfl) (hline : (apos.endLine == cpos.line) = true := by rfl) (hs : swapsWith (.Call (.Attribute (.Name x p) "pop" apos) [] [] cpos) (some (.Name y py)) pos.line X.env = pure false := by rfl)
    (hf : X.fn y = true ∨ X.env.scope.names.lookup y = some .local := by first | exact .inl rfl | exact .inr rfl) : OkS X (.Assign [.Name y py] (.Call (.Attribute (.Name x p) "pop" apos) [] [] cpos) pos) (sPop i j) :=
  PS.imp (ps_set hN hj hx (pe_bm0 PySem.F.plainAttrs_list PySem.F.slot_list_pop PySem.F.type_list_pop mt_pop (pe_var hi hv hd hcd) (by rfl) hline) hs hf) fun D σ H ⟨G0, ρ, fl, ρ', I, hf, post⟩ => by
  unfold sPop at hf
  split at hf
  · rename_i ds hw
    obtain ⟨d, hd, hf1⟩ := Option.bind_eq_some_iff.mp hf
    clear hf
    split at hf1
    · rename_i hlt
      cases hf1
      obtain ⟨p, xs, y, h1, h2, h3, G, F1, F2, J, ry⟩ := pop_core I (join_some hw) hd
      refine ⟨.ref p, h1, .inl ⟨rfl, xs, SqL.of h2⟩, p, xs, y, rfl, rfl, h2, h3, post _ _ ?_⟩
      exact (J.pushF ry).SI.store (by rw [List.length_set]; exact hlt)
    · cases hf1
  · cases hf
/-- y = z[x.pop()] -/
def sPopIx (i j m : Nat) : Fs := fun ρ => match (ρ[i]?).join with
  | some (1, .lst ds) => (ds[ds.length - 1]?).bind fun d => if j < ρ.length then if i = m then none else ((ρ[m]?).join).bind fun u => (gIx u (0, d)).map fun w => (.nx, (ρ.set i (some (1, .lst ds.dropLast))).set j (some w)) else none
  | _ => none
theorem s_popIx {i j m : Nat} {x y z : Str} {p py pz apos cpos ppos : Pos} (hN : X.N.Nodup) (hi : X.N[i]? = some x := by rfl) (hj : X.N[j]? = some y := by rfl) (hm : X.N[m]? = some z := by rfl) (hv : Vis X.env.scope x := by first | exact Or.inl rfl | exact Or.inr (Or.inl rfl) | exact Or.inr (Or.inr rfl)) (hd : (x == ("__debug__" : Str)) = false := by decide) (hcd : (x == ("__classdict__" : Str)) = false := by decide)
    (hv2 : Vis X.env.scope z := by first | exact Or.inl rfl | exact Or.inr (Or.inl rfl) | exact Or.inr (Or.inr rfl)) (hd2 : (z == ("__debug__" : Str)) = false := by decide) (hcd2 : (z == ("__classdict__" : Str)) = false := by decide)
    (hx : Loc X.env.scope y := by first | exact Or.inl rfl | exact Or.inr rfl) (hline : (apos.endLine == cpos.line) = true := by rfl) (hpl : PlainIx (.Call (.Attribute (.Name x p) "pop" apos) [] [] cpos) := by exact fun _ _ => rfl)
    (hs : swapsWith (.Subscript (.Name z pz) (.Call (.Attribute (.Name x p) "pop" apos) [] [] cpos) ppos) (some (.Name y py)) pos.line X.env = pure false := by rfl)
    (hf : X.fn y = true ∨ X.env.scope.names.lookup y = some .local := by first | exact .inl rfl | exact .inr rfl) : OkS X (.Assign [.Name y py] (.Subscript (.Name z pz) (.Call (.Attribute (.Name x p) "pop" apos) [] [] cpos) ppos) pos) (sPopIx i j m) :=
  PS.imp (ps_set hN hj hx (pe_ix ix_seq (pe_var hm hv2 hd2 hcd2) (pe_bm0 PySem.F.plainAttrs_list PySem.F.slot_list_pop PySem.F.type_list_pop mt_pop (pe_var hi hv hd hcd) (by rfl) hline) hpl) hs hf) fun D σ H ⟨G0, ρ, fl, ρ', I, hf, post⟩ => by
  unfold sPopIx at hf
  split at hf
  · rename_i ds hw
    obtain ⟨d, hd, hf1⟩ := Option.bind_eq_some_iff.mp hf
    clear hf
    split at hf1
    · rename_i hlt
      split at hf1
      · cases hf1
      · rename_i hne
        obtain ⟨u, hu, hf2⟩ := Option.bind_eq_some_iff.mp hf1
        obtain ⟨w, hw2, hf3⟩ := Option.map_eq_some_iff.mp hf2
        cases hf3
        clear hf1 hf2
        obtain ⟨p, xs, y, h1, h2, h3, G, F1, F2, J, ry⟩ := pop_core I (join_some hw) hd
        have hm' : (ρ.set i (some (1, Pv.D.lst ds.dropLast)))[m]? = some (some u) := by rw [List.getElem?_set_ne hne]; exact join_some hu
        obtain ⟨v, Fi, q1, q2, _⟩ := J.sl.at hm'
        refine ⟨v, q1, .ref p, h1, .inl ⟨rfl, xs, SqL.of h2⟩, p, xs, y, rfl, rfl, h2, h3, ?_⟩
        refine g_ix G _ u (0, d) v y Fi [] w J.ex q2 ⟨ry, rfl⟩ hw2 _ fun t H' G' F' gr rt => post _ _ ?_
        exact (J.push gr rt).SI.store (by rw [List.length_set]; exact hlt)
    · cases hf1
  · cases hf
/-! ### {k: v} -/
theorem Si.setTop {p : Addr} {o : HO} {w w' : W} (I : Si K G0 σ ρ ((.ref p, .v w.1 w.2) :: ws) H G F1 F2) (ho : isOwn o) (hw : ∀ F, RO K G H w.1 w.2 (.ref p) F → F = [p]) (r : RO K G (upd H p o) w'.1 w'.2 (.ref p) [p]) : Si K G0 σ ρ ((.ref p, .v w'.1 w'.2) :: ws) (upd H p o) G F1 F2 := by
  obtain ⟨Fa, Fb, e, h1, h2⟩ := I.wv
  obtain rfl := hw Fa h1
  subst e
  have n := I.nd
  simp only [List.nodup_append, List.mem_append, List.nodup_cons, List.mem_cons, List.cons_append, List.nil_append] at n
  have hp : G p = none := I.fr p (by simp)
  have h1 : ∀ a ∈ F1, a ≠ p := fun a ha e => n.2.2 a ha p (.inl rfl) e
  have h2' : ∀ a ∈ Fb, a ≠ p := fun a ha e => n.2.1.1 (e ▸ ha)
  refine ⟨I.ex0, fun b u q => ?_, RSl.mono (Same.refl _) _ _ _ (fun a ha => upd_ne (h1 a ha)) I.sl, ⟨[p], Fb, rfl, r, RWs.mono (Same.refl _) _ _ (fun a ha => upd_ne (h2' a ha)) h2⟩, I.nd, I.fr, fun b u q1 q2 => ?_, I.ln⟩
  · rw [upd_ne (ne_of_none q hp)]; exact I.ex b u q
  · by_cases hb : b = p
    · subst hb; rw [upd_same] at q1; cases q1; exact absurd ho q2
    · rw [upd_ne hb] at q1; exact I.tu b u q1 q2
def pDisp1 (B A : Fe) : Fe := fun ρ => (val B ρ).bind fun u => (keyK u.2).bind fun k => (A ρ).bind fun a => match a with
  | .v _ d => some (.v 1 (.dct false [([k], d)]))
  | .r _ => none
theorem e_disp1 (hb : OkE X b B) (ha : OkE X a A) : OkE X (.Dict [some b] [a] pos) (pDisp1 B A) := PE.imp (pe_disp (pps_cons hb ha pps_nil) rfl rfl (by simp) (by show 1 ≤ 15; decide)) fun σ H Q ⟨G0, ρ, ws, x, I, hf, q⟩ p hp => by
  obtain ⟨u, hu, hf1⟩ := Option.bind_eq_some_iff.mp hf
  obtain ⟨k, hk, hf2⟩ := Option.bind_eq_some_iff.mp hf1
  obtain ⟨c, hc, hf3⟩ := Option.bind_eq_some_iff.mp hf2
  clear hf hf1 hf2
  cases c with
  | r j => cases hf3
  | v j d =>
    cases hf3
    obtain ⟨a1, ha1, hg1⟩ := val_some hu
    obtain ⟨G, F1, F2, J⟩ := I
    have g := Grow.newO (o := .dK []) J.ex hp trivial
    have J0 := J.push (k := 1) (d := .dct false []) (v := .ref p) g ⟨p, [], [], rfl, upd_same, (fun _ p h => by cases h), rfl, rfl, rfl⟩
    refine ⟨G0, ρ, (.ref p, .v 1 (.dct false [])) :: ws, a1, J0.SI, ha1, fun y H1 I1 => ⟨G0, ρ, (y, a1) :: (.ref p, .v 1 (.dct false [])) :: ws, .v j d, I1, hc, fun z H2 I2 => ?_⟩⟩
    obtain ⟨G2, F3, F4, J2⟩ := I2
    obtain ⟨G3, F5, J3, e3, rz⟩ := J2.freeze
    obtain ⟨Fy, ry⟩ := Si.top (ws := (.ref p, .v 1 (.dct false [])) :: ws) J3 hg1
    obtain rfl := keyK_rep hk ry
    obtain ⟨F6, _, J4⟩ := Si.drop (ws := (.ref p, .v 1 (.dct false [])) :: ws) J3
    obtain ⟨Fp, rp⟩ := Si.top (ws := ws) J4 (show Arg.get ρ (.v 1 (.dct false [])) = some (1, .dct false []) from rfl)
    have hp2 : H2 p = some (.dK []) := by
      obtain ⟨p', xs, F', q0, h4, _, _, h5⟩ := rp
      cases q0
      rw [h5.1] at h4
      exact h4
    refine ⟨hp2, [(k, z)], rfl, (by show 1 ≤ 15; decide), q _ _ (Si.setTop (w := (1, .dct false [])) (w' := (1, .dct false [([k], d)])) (o := .dK _) J4 trivial (fun F r => ?_) ⟨p, [([k], z)], [], rfl, upd_same, fun _ q hq => ⟨k, by rw [List.mem_singleton.mp hq]⟩, rfl, ROk.of_F ⟨z, [], rfl, rz, rfl⟩⟩).SI⟩
    obtain ⟨p', xs, F', q0, h4, _, e5, h5⟩ := r
    cases q0
    rw [e5, h5.2]
end
end Pv
set_option Elab.async false
set_option linter.all false
set_option maxRecDepth 100000
/-! P17: x.setdefault(k, []).append(v) -/
namespace Pv
open PySem PySem.Spec PyProof.Rows L2
def setD : List (List Key × D) → List Key → D → List (List Key × D)
  | [], _, _ => []
  | p :: r, k, d => if p.1 = k then (p.1, d) :: r else p :: setD r k d
section
variable {X : Cx} {K : PySem.W.Frag} {G0 G G1 G' H H' : Hp} {σ : L2.St} {ρ : Env} {ws : List (V × Arg)} {F F1 F2 : List Addr} {e a b c tg : Expr} {es : List Expr} {pos : Pos} {A B C : Fe}
theorem ROk.zoom {R : D → V → List Addr → Prop} {k : List Key} : ∀ {kvs : List (List Key × D)} {xs : List (List Key × V)} {F : List Addr} {d : D}, ROk R kvs xs F → valD kvs k = some d →
    ∃ v FL Fd FR, F = FL ++ Fd ++ FR ∧ valV xs k = some v ∧ R d v Fd ∧ ∀ (R' : D → V → List Addr → Prop) (d' : D) (Fd' : List Addr), (∀ e u Fe, (∀ a ∈ Fe, a ∈ FL ++ FR) → R e u Fe → R' e u Fe) → R' d' v Fd' → ROk R' (setD kvs k d') xs (FL ++ Fd' ++ FR)
  | [], _, _, _, _, h => by cases h
  | (k', e) :: r, _, F, d, ⟨x, xs, Fa, Fb, h1, h2, h3, h4⟩, h => by
    subst h1 h2
    unfold valD at h
    split at h
    · rename_i ek
      cases h
      refine ⟨x, [], Fa, Fb, rfl, valV_pos ek, h3, fun R' d' Fd' f r' => ?_⟩
      unfold setD
      rw [if_pos ek]
      exact ⟨x, xs, Fd', Fb, rfl, rfl, r', ROk.imp _ _ _ (fun d v F1 s => f d v F1 fun a ha => by simpa using s a ha) h4⟩
    · rename_i ek
      obtain ⟨v, FL, Fd, FR, q1, q2, q3, q4⟩ := ROk.zoom h4 h
      subst q1
      refine ⟨v, Fa ++ FL, Fd, FR, by simp [List.append_assoc], by rw [valV_neg ek]; exact q2, q3, fun R' d' Fd' f r' => ?_⟩
      unfold setD
      rw [if_neg ek]
      refine ⟨x, xs, Fa, FL ++ Fd' ++ FR, rfl, by simp [List.append_assoc], f _ _ _ (fun a ha => by simp [ha]) h3, q4 R' d' Fd' (fun e u Fe s => f e u Fe fun a ha => ?_) r'⟩
      have := s a ha
      simp only [List.mem_append] at this ⊢
      rcases this with z | z
      · exact .inl (.inr z)
      · exact .inr z
theorem ROk.vnone {R : D → V → List Addr → Prop} {k : List Key} : ∀ {kvs : List (List Key × D)} {xs : List (List Key × V)} {F : List Addr}, ROk R kvs xs F → valD kvs k = none → valV xs k = none
  | [], _, _, h, _ => by rw [h.1]; rfl
  | (k', e) :: r, _, F, ⟨x, xs, Fa, Fb, h1, h2, h3, h4⟩, h => by
    subst h1
    unfold valD at h
    split at h
    · cases h
    · rename_i ek
      rw [valV_neg ek]
      exact ROk.vnone h4 h
theorem ROk.snoc {R : D → V → List Addr → Prop} {k : List Key} {d : D} {v : V} {Fd : List Addr} (r : R d v Fd) : ∀ {kvs : List (List Key × D)} {xs : List (List Key × V)} {F : List Addr}, ROk R kvs xs F → ROk R (kvs ++ [(k, d)]) (xs ++ [(k, v)]) (F ++ Fd)
  | [], _, _, h => by rw [h.1, h.2]; exact ⟨v, [], Fd, [], rfl, by simp, r, rfl, rfl⟩
  | (k', e) :: t, _, F, ⟨x, xs, Fa, Fb, h1, h2, h3, h4⟩ => by
    subst h1 h2
    exact ⟨x, xs ++ [(k, v)], Fa, Fb ++ Fd, rfl, by simp [List.append_assoc], h3, ROk.snoc r h4⟩
theorem ROk.len {R : D → V → List Addr → Prop} : ∀ {kvs : List (List Key × D)} {xs : List (List Key × V)} {F : List Addr}, ROk R kvs xs F → xs.length = kvs.length
  | [], _, _, h => by rw [h.1]; rfl
  | (k', e) :: t, _, F, ⟨x, xs, Fa, Fb, h1, h2, h3, h4⟩ => by rw [h1, List.length_cons, List.length_cons, ROk.len h4]
def setAppD (kvs : List (List Key × D)) (k : List Key) (d : D) : Option (List (List Key × D)) :=
  if kvs.length < big then match valD kvs k with
    | some (.lst ds) => if ds.length < big then some (setD kvs k (.lst (ds ++ [d]))) else none
    | none => some (kvs ++ [(k, .lst [d])])
    | _ => none
  else none
/-- x.setdefault(k, []).append(v): x in slot i a dict of own lists, v in slot m -/
def sSetApp (i : Nat) (B : Fe) (m : Nat) : Fs := fun ρ => match (ρ[i]?).join with
  | some (2, .dct false kvs) => (val B ρ).bind fun u => (keyK u.2).bind fun k => ((ρ[m]?).join).bind fun w => if w.1 = 0 then (setAppD kvs [k] w.2).map fun kvs' => (.nx, ρ.set i (some (2, .dct false kvs'))) else none
  | _ => none
set_option maxHeartbeats 1000000 in
theorem s_setApp {i m : Nat} {x v : Str} {p pv pl a1 c1 a2 c2 : Pos} (hb : OkE X b B) (hi : X.N[i]? = some x := by rfl) (hm : X.N[m]? = some v := by rfl) (hv : Vis X.env.scope x := by first | exact Or.inl rfl | exact Or.inr (Or.inl rfl) | exact Or.inr (Or.inr rfl)) (hd : (x == ("__debug__" : Str)) = false := by decide) (hcd : (x == ("__classdict__" : Str)) = false := by decide)
    (hv2 : Vis X.env.scope v := by first | exact Or.inl rfl | exact Or.inr (Or.inl rfl) | exact Or.inr (Or.inr rfl)) (hd2 : (v == ("__debug__" : Str)) = false := by decide) (hcd2 : (v == ("__classdict__" : Str)) = false := by decide)
    (mm : M2 X (.Name x p) "setdefault" a1 b (.List [] pl) c1 := by exact ⟨rfl, rfl, rfl, rfl⟩)
    (hfew : ((backTo c2 (starEach [.Name v pv] X.env)).all (fun x => !x.1) && (backToKw c2 (keywordEach [] X.env)).all (fun x => x.1.isSome) && decide ([Expr.Name v pv].length + ([] : List Keyword).length + (if ([] : List Keyword).isEmpty then 0 else 1) < 30)) = true := by rfl)
    (hline : (a2.endLine == c2.line) = true := by rfl) (hs : starEach [.Name v pv] X.env = (false, eval (.Name v pv) X.env) :: starEach [] X.env := by rfl)
    (hbase : attributeBase (.Call (.Attribute (.Name x p) "setdefault" a1) [b, .List [] pl] [] c1) "append" X.env (eval (.Call (.Attribute (.Name x p) "setdefault" a1) [b, .List [] pl] [] c1) X.env) = eval (.Call (.Attribute (.Name x p) "setdefault" a1) [b, .List [] pl] [] c1) X.env := by rfl)
    (hsw : swapsWith (.Call (.Attribute (.Call (.Attribute (.Name x p) "setdefault" a1) [b, .List [] pl] [] c1) "append" a2) [.Name v pv] [] c2) none pos.line X.env = pure false := by rfl) :
    OkS X (.Expr (.Call (.Attribute (.Call (.Attribute (.Name x p) "setdefault" a1) [b, .List [] pl] [] c1) "append" a2) [.Name v pv] [] c2) pos) (sSetApp i B m) :=
  PS.imp (ps_expr (pe_bm PySem.F.plainAttrs_list PySem.F.slot_list_append PySem.F.type_list_append mt_append (pe_dsetd (pe_var hi hv hd hcd) hb (pe_lst pa_nil) mm) (pa_cons (pe_var hm hv2 hd2 hcd2) pa_nil hs) hbase hfew hline hs (by rfl)) hsw) fun D σ H ⟨G0, ρ, fl, ρ', I, hf, post⟩ => by
  unfold sSetApp at hf
  split at hf
  · rename_i kvs hw
    obtain ⟨u, hu, hf1⟩ := Option.bind_eq_some_iff.mp hf
    obtain ⟨k, hk, hf2⟩ := Option.bind_eq_some_iff.mp hf1
    obtain ⟨⟨k0, dv⟩, hwm, hf3⟩ := Option.bind_eq_some_iff.mp hf2
    clear hf hf1 hf2
    simp only at hf3
    split at hf3
    · rename_i hk0
      subst hk0
      obtain ⟨kvs', hset, hf4⟩ := Option.map_eq_some_iff.mp hf3
      cases hf4
      clear hf3
      have hρ := join_some hw
      have hx : ∃ p xs, σ[i]? = some (some (.ref p)) ∧ H p = some (hoD false xs) := by
        obtain ⟨G, F1, F2, J⟩ := I
        obtain ⟨v, Fi, h1, h2, _⟩ := J.sl.at hρ
        obtain ⟨p, xs, F', rfl, h3, _⟩ := h2
        exact ⟨p, xs, h1, h3⟩
      obtain ⟨p, xs0, h1, h2⟩ := hx
      obtain ⟨ab, hab, hgb⟩ := val_some hu
      refine ⟨.ref p, h1, p, rfl, .inl ⟨_, .inl h2⟩, G0, ρ, [], ab, I, hab, fun y H2 I2 => ⟨Nat.zero_le _, fun q hq => ?_⟩⟩
      obtain ⟨G, F1, F2, J⟩ := I2
      obtain ⟨Fy, ry⟩ := Si.top (ws := []) J hgb
      obtain rfl := keyK_rep hk ry
      obtain ⟨F3, _, J1⟩ := Si.drop (ws := []) J
      obtain rfl : F3 = [] := J1.wv
      obtain ⟨v, Fa, Fi, Fb, e1, h3, h4, h5⟩ := J1.slot hρ
      rw [h1] at h3
      cases h3
      obtain ⟨p', xs, F', q0, h6, hok, e2, h7⟩ := h4
      cases q0
      subst e2 e1
      obtain ⟨vm, Fm, m1, ⟨m2, _⟩, _⟩ := J1.sl.at (join_some hwm)
      have hpq : p ≠ q := fun z => by rw [z, hq] at h6; cases h6
      have fr := J1.fr
      have nd := J1.nd
      simp only [List.nodup_append, List.mem_append, List.nodup_cons, List.mem_cons, List.cons_append, List.append_nil] at nd fr
      obtain ⟨⟨n1, ⟨n2, n3⟩, n4⟩, n5, n6⟩ := nd
      have hG : ∀ z, H2 z ≠ none → z ≠ q := fun z hz e => hz (by rw [e]; exact hq)
      have own := J1.own
      have live : ∀ z, z ∈ Fa ++ (p :: F') ++ Fb → z ≠ q := fun z hz => hG z (by obtain ⟨o, ho, _⟩ := own z (by simpa using hz); rw [ho]; simp)
      have Gq : G q = none := J1.ex.free hq
      have hl : xs.length = kvs.length := h7.len
      unfold setAppD at hset
      split at hset
      · rename_i hz
        refine ⟨xs.map (fun p => (p.1.headD (.inl 0), p.2)), k, by rw [upd_ne hpq]; exact h6, rfl, by rw [List.length_map, hl]; exact big_lt hz, fun w hw' => ?_, fun hw' => ?_⟩
        · rw [valV_head k xs (hok rfl)] at hw'
          split at hset
          · rename_i ds hds
            split at hset
            · rename_i hz2
              cases hset
              obtain ⟨v0, FL, Fd, FR, g1, g2, g3, g4⟩ := h7.zoom hds
              rw [hw'] at g2
              cases g2
              obtain ⟨bb, ys, F'', rfl, g5, g6, g7⟩ := g3
              obtain ⟨g8, g9⟩ := ROs.to_F g7
              subst g9 g6 g1
              have hbq : bb ≠ q := live bb (by simp)
              have g5' : upd H2 q (.lst []) bb = some (.lst ys) := by rw [upd_ne hbq]; exact g5
              refine ⟨.inl ⟨rfl, ys, SqL.of g5'⟩, vm, m1, bb, ys, vm, rfl, rfl, g5', by rw [g8.len]; exact big_lt hz2, post _ _ ?_⟩
              simp only [List.mem_append, List.mem_cons, List.nodup_append, List.nodup_cons, List.not_mem_nil, or_false] at n2 n3 n4 n6 fr
              have hpb : p ≠ bb := fun z => n2 (.inl (.inr z))
              have Gb : G bb = none := fr bb (by simp)
              have ne : ∀ z, z ∈ Fa ∨ z ∈ Fb → z ≠ bb := fun z hz e => by
                subst e
                rcases hz with hz | hz
                · exact n4 z hz z (.inr (.inl (.inr rfl))) rfl
                · exact n6 z (.inr (.inr (.inl (.inr rfl)))) z hz rfl
              have ne2 : ∀ z, z ∈ FL ++ FR → z ≠ bb := fun z hz e => by
                subst e
                rcases List.mem_append.mp hz with hz | hz
                · exact n3.1.2.2 z hz z rfl rfl
                · exact n3.2.2 z (.inr rfl) z hz rfl
              refine ⟨G, Fa ++ (p :: (FL ++ [bb] ++ FR)) ++ Fb, [], J1.ex0, fun z o hz => ?_, h5 G _ (2, .dct false (setD kvs [k] (.lst (ds ++ [dv])))) (p :: (FL ++ [bb] ++ FR)) (Same.refl _) (fun z hz => ?_) ⟨p, xs, FL ++ [bb] ++ FR, rfl, ?_, hok, rfl, ?_⟩, rfl, J1.nd, J1.fr, fun z o hz1 hz2 => ?_, by rw [List.length_set]; exact J1.ln⟩
              · have e1 : z ≠ bb := ne_of_none hz Gb
                have e2 : z ≠ q := ne_of_none hz Gq
                rw [upd_ne e1, upd_ne e2]; exact J1.ex z o hz
              · have hz' : z ∈ Fa ∨ z ∈ Fb := by simpa using hz
                rw [upd_ne (ne z hz'), upd_ne (live z (by rcases hz' with h | h <;> simp [h]))]
              · rw [upd_ne hpb, upd_ne hpq]; exact h6
              · refine g4 _ _ [bb] (fun e u Fe s r => RO.mono (Same.refl _) _ _ _ _ (fun z hz => ?_) r) ⟨bb, ys ++ [vm], [], rfl, upd_same, rfl, ROs.of_F (g8.append ⟨vm, [], rfl, m2, rfl⟩)⟩
                have := s z hz
                rw [upd_ne (ne2 z this), upd_ne (live z (by rcases List.mem_append.mp this with h | h <;> simp [h]))]
              · by_cases e1 : z = bb
                · subst e1; rw [upd_same] at hz1; cases hz1; exact absurd trivial hz2
                · rw [upd_ne e1] at hz1
                  by_cases e2 : z = q
                  · subst e2; rw [upd_same] at hz1; cases hz1; exact absurd trivial hz2
                  · rw [upd_ne e2] at hz1; exact J1.tu z o hz1 hz2
            · cases hset
          · rename_i hds
            rw [h7.vnone hds] at hw'; cases hw'
          · cases hset
        · rw [valV_head k xs (hok rfl)] at hw'
          split at hset
          · rename_i ds hds
            obtain ⟨v0, FL, Fd, FR, g1, g2, g3, g4⟩ := h7.zoom hds
            rw [hw'] at g2; cases g2
          · rename_i hds
            cases hset
            have hqp : q ≠ p := fun z => hpq z.symm
            have g5' : upd (upd H2 q (.lst [])) p (.dK (putK (xs.map fun p => (p.1.headD (.inl 0), p.2)) k (.ref q))) q = some (.lst []) := by rw [upd_ne hqp, upd_same]
            refine ⟨.inl ⟨rfl, [], SqL.of g5'⟩, vm, m1, q, [], vm, rfl, rfl, g5', by show 0 < sizeLine; decide, post _ _ ?_⟩
            have Gp : G p = none := fr p (by simp)
            have n1' : ∀ z, z ∈ Fa ∨ z ∈ Fb → z ≠ p ∧ z ≠ q := fun z hz => ⟨fun e => by
              subst e
              rcases hz with hz | hz
              · exact n4 z hz z (.inl rfl) rfl
              · exact n6 z (.inr (.inl rfl)) z hz rfl, live z (by rcases hz with h | h <;> simp [h])⟩
            have hpk : putK xs [k] (.ref q) = xs ++ [([k], .ref q)] := putK_new _ hw'
            refine ⟨G, Fa ++ (p :: (F' ++ [q])) ++ Fb, [], J1.ex0, fun z o hz => ?_, h5 G _ (2, .dct false (kvs ++ [([k], .lst [dv])])) (p :: (F' ++ [q])) (Same.refl _) (fun z hz => ?_) ⟨p, xs ++ [([k], .ref q)], F' ++ [q], rfl, ?_, ?_, rfl, ?_⟩, rfl, ?_, fun z hz => ?_, fun z o hz1 hz2 => ?_, by rw [List.length_set]; exact J1.ln⟩
            · rw [upd_ne (ne_of_none hz Gq), upd_ne (ne_of_none hz Gp), upd_ne (ne_of_none hz Gq)]; exact J1.ex z o hz
            · have hz' : z ∈ Fa ∨ z ∈ Fb := by simpa using hz
              obtain ⟨e1, e2⟩ := n1' z hz'
              rw [upd_ne e2, upd_ne e1, upd_ne e2]
            · rw [upd_ne hpq, upd_same, ← hpk, ← put_head (hok rfl)]; rfl
            · intro _ r hr
              rcases List.mem_append.mp hr with h | h
              · exact hok rfl r h
              · rw [List.mem_singleton.mp h]; exact ⟨k, rfl⟩
            · refine ROk.snoc ⟨q, [vm], [], rfl, upd_same, rfl, ROs.of_F ⟨vm, [], rfl, m2, rfl⟩⟩ (ROk.imp _ _ _ (fun e u Fe s r => RO.mono (Same.refl _) _ _ _ _ (fun z hz => ?_) r) h7)
              have hzF := s z hz
              have e1 : z ≠ p := fun e => n2 (e ▸ hzF)
              have e2 : z ≠ q := live z (by simp [hzF])
              rw [upd_ne e2, upd_ne e1, upd_ne e2]
            · have lq : ∀ z, z ∈ Fa ∨ z = p ∨ z ∈ F' ∨ z ∈ Fb → z ≠ q := fun z hz => live z (by rcases hz with h | h | h | h <;> simp [h])
              simp only [List.nodup_append, List.mem_append, List.nodup_cons, List.mem_cons, List.cons_append, List.append_nil, List.not_mem_nil, or_false, List.nodup_nil, and_true]
              refine ⟨⟨n1, ⟨fun z => ?_, n3, by simp, fun z hz y hy e => ?_⟩, fun z hz y hy e => ?_⟩, n5, fun z hz y hy e => ?_⟩
              · rcases z with z | z
                · exact n2 z
                · exact hpq z
              · subst hy e; exact lq _ (.inr (.inr (.inl hz))) rfl
              · subst e
                rcases hy with hy | hy | hy
                · exact n4 z hz z (.inl hy) rfl
                · exact n4 z hz z (.inr hy) rfl
                · exact lq z (.inl hz) hy
              · subst e
                rcases hz with hz | hz | hz | hz
                · exact n6 z (.inl hz) z hy rfl
                · exact n6 z (.inr (.inl hz)) z hy rfl
                · exact n6 z (.inr (.inr hz)) z hy rfl
                · exact lq z (.inr (.inr (.inr hy))) hz
            · simp only [List.mem_append, List.mem_cons, List.append_nil, List.cons_append, List.not_mem_nil, or_false] at hz
              rcases hz with (hz | hz | hz | hz) | hz
              · exact fr z (.inl (.inl hz))
              · exact fr z (.inl (.inr (.inl hz)))
              · exact fr z (.inl (.inr (.inr hz)))
              · subst hz; exact Gq
              · exact fr z (.inr hz)
            · by_cases e1 : z = q
              · subst e1; rw [upd_same] at hz1; cases hz1; exact absurd trivial hz2
              · rw [upd_ne e1] at hz1
                by_cases e2 : z = p
                · subst e2; rw [upd_same] at hz1; cases hz1; exact absurd trivial hz2
                · rw [upd_ne e2, upd_ne e1] at hz1; exact J1.tu z o hz1 hz2
          · cases hset
      · cases hset
    · cases hf3
  · cases hf
end
end Pv
set_option Elab.async false
set_option linter.all false
set_option maxRecDepth 100000
/-! P18: walks of lists and tuples alike, tests, names of the module, defs as data -/
namespace Pv
open PySem PySem.Spec PyProof.Rows L2
theorem PI.or {X : Cx} {tg e : Expr} {t t' : L2.TI} (h : PI X tg e t) (h' : PI X tg e t') : PI X tg e fun σ H R => t σ H R ∨ t' σ H R := ⟨fun pins s σ H R I q => q.elim (h.run pins s σ H R I) (h'.run pins s σ H R I)⟩
section
variable {X : Cx} {K : PySem.W.Frag} {G0 G G1 G' H H' : Hp} {σ : L2.St} {ρ : Env} {ws : List (V × Arg)} {F F1 F2 : List Addr} {e a b c tg : Expr} {es : List Expr} {pos : Pos} {A B C : Fe}
/-- a list or tuple, a value -/
def iSeq (A : Fe) : Fit := fun ρ => (A ρ).bind fun a => match a with
  | .v _ d => (seqD d).map (·.2)
  | .r _ => none
theorem i_seq (h : OkE X e A) : OkI X tg e (iSeq A) := PI.imp (PI.or (pi_list h) (pi_tup h)) fun σ H R ⟨G0, ρ, ds, I, hf, q⟩ => by
  obtain ⟨a, ha, hf1⟩ := Option.bind_eq_some_iff.mp hf
  cases a with
  | r j => cases hf1
  | v k d =>
    obtain ⟨⟨b, ds'⟩, hs, rfl⟩ := Option.map_eq_some_iff.mp hf1
    have key : ∀ (v : V) (H1 : Hp), SI X.K G0 σ ρ ((v, .v k d) :: []) H1 → ∃ G1 F1 F2 p xs, Si X.K G0 σ ρ [] H1 G1 F1 F2 ∧ v = .ref p ∧ Sq X.K G1 b p xs ∧ RepFs X.K G1 ds' xs := fun v H1 I1 => by
      obtain ⟨G, F1, F2, J⟩ := I1
      obtain ⟨G1, F2', J1, e1, r1⟩ := J.freeze
      obtain ⟨p, xs, rfl, h1, h2⟩ := seqD_rep hs r1
      exact ⟨G1, F1, F2', p, xs, J1, rfl, h1, h2⟩
    cases b with
    | true =>
      refine .inl ⟨G0, ρ, [], _, I, ha, fun v H1 I1 => ?_⟩
      obtain ⟨G1, F1, F2, p, xs, J, rfl, h1, h2⟩ := key v H1 I1
      refine ⟨p, rfl, ⟨xs, same_l J.ex h1⟩, q _ H1 G1 J.ex0 J.up ?_⟩
      exact ⟨fun i G H hi ⟨e1, e2⟩ => ⟨xs, xs[i]'(by rw [h2.len]; exact hi), same_l e2 (same_l e1 h1), by simp [h2.len, hi]⟩, fun G H ⟨e1, e2⟩ => ⟨xs, same_l e2 (same_l e1 h1), by rw [h2.len]; exact Nat.le_refl _⟩, fun i G H x H' hi ⟨e1, e2⟩ ⟨hy, hx⟩ => by
        subst hy
        obtain ⟨z, q1, q2⟩ := (RepFs.mono e1 _ _ h2).get (List.getElem?_eq_getElem hi)
        have := hx xs (same_l e2 (same_l e1 h1))
        rw [q1] at this
        cases this
        exact ⟨G, ds'[i], Grow.refl e2, List.getElem?_eq_getElem hi, q2⟩⟩
    | false =>
      refine .inr ⟨G0, ρ, [], _, I, ha, fun v H1 I1 => ?_⟩
      obtain ⟨G1, F1, F2, p, xs, J, rfl, h1, h2⟩ := key v H1 I1
      exact ⟨p, rfl, ⟨xs, same_t J.ex h1⟩, q _ H1 G1 J.ex0 J.up (Items.tupF h1 h2)⟩
theorem c_seq (h : OkE X e A) : OkIc X tg e (iSeq A) := PI.imp (PI.or (pi_list h) (pi_tup h)) fun σ H R ⟨G0, ρ, ws, ds, I, hf, q⟩ => by
  obtain ⟨a, ha, hf1⟩ := Option.bind_eq_some_iff.mp hf
  cases a with
  | r j => cases hf1
  | v k d =>
    obtain ⟨⟨b, ds'⟩, hs, rfl⟩ := Option.map_eq_some_iff.mp hf1
    have key : ∀ (v : V) (H1 : Hp), SI X.K G0 σ ρ ((v, .v k d) :: ws) H1 → ∃ G1 F1 F2 p xs, Si X.K G0 σ ρ ws H1 G1 F1 F2 ∧ v = .ref p ∧ Sq X.K G1 b p xs ∧ RepFs X.K G1 ds' xs := fun v H1 I1 => by
      obtain ⟨G, F1, F2, J⟩ := I1
      obtain ⟨G1, F2', J1, e1, r1⟩ := J.freeze
      obtain ⟨p, xs, rfl, h1, h2⟩ := seqD_rep hs r1
      exact ⟨G1, F1, F2', p, xs, J1, rfl, h1, h2⟩
    cases b with
    | true =>
      refine .inl ⟨G0, ρ, ws, _, I, ha, fun v H1 I1 => ?_⟩
      obtain ⟨G1, F1, F2, p, xs, J, rfl, h1, h2⟩ := key v H1 I1
      refine ⟨p, rfl, ⟨xs, same_l J.ex h1⟩, q _ H1 G1 J.ex0 J.up (Items.toC ?_)⟩
      exact ⟨fun i G H hi ⟨e1, e2⟩ => ⟨xs, xs[i]'(by rw [h2.len]; exact hi), same_l e2 (same_l e1 h1), by simp [h2.len, hi]⟩, fun G H ⟨e1, e2⟩ => ⟨xs, same_l e2 (same_l e1 h1), by rw [h2.len]; exact Nat.le_refl _⟩, fun i G H x H' hi ⟨e1, e2⟩ ⟨hy, hx⟩ => by
        subst hy
        obtain ⟨z, q1, q2⟩ := (RepFs.mono e1 _ _ h2).get (List.getElem?_eq_getElem hi)
        have := hx xs (same_l e2 (same_l e1 h1))
        rw [q1] at this
        cases this
        exact ⟨G, ds'[i], Grow.refl e2, List.getElem?_eq_getElem hi, q2⟩⟩
    | false =>
      refine .inr ⟨G0, ρ, ws, _, I, ha, fun v H1 I1 => ?_⟩
      obtain ⟨G1, F1, F2, p, xs, J, rfl, h1, h2⟩ := key v H1 I1
      exact ⟨p, rfl, ⟨xs, same_t J.ex h1⟩, q _ H1 G1 J.ex0 J.up (Items.tupF h1 h2).toC⟩
/-! ### tests -/
theorem t_din (hu : X.A.units + 1 < cLine) (ha : OkE X a A) (hb : OkE X b B) (hm : behindInMarks .In b = false := by rfl) : OkT X (.Compare a [.In] [b] pos) (bVal (pOp2 (gDIn false) A B)) := PT.imp (pt_cmp (pc_din hu ha hb) hm) (bVal_imp (op2_imp g_din))
theorem t_dnotin (hu : X.A.units + 1 < cLine) (ha : OkE X a A) (hb : OkE X b B) (hm : behindInMarks .NotIn b = false := by rfl) : OkT X (.Compare a [.NotIn] [b] pos) (bVal (pOp2 (gDIn true) A B)) := PT.imp (pt_cmp (pc_dnotin hu ha hb) hm) (bVal_imp (op2_imp g_dnotin))
theorem gkin_op {d : Addr} {kc : List (Str × D)} (hz : ∀ z, match kget kc z with
    | none => PySem.W.nsIn K d z = some none
    | some v => ∃ u x, PySem.W.nsIn K d z = some (some u) ∧ RelV x u ∧ ∀ G, RepF K G v x) : Op1 K (fun y H Q => ∃ (z : Str) (r : Option Value), y = .str z ∧ V.ref d = .ref d ∧ PySem.W.nsIn K d z = some r ∧ Q (.bl r.isSome) H) (gKIn false kc) := by
  intro G H u y Fu w e ru hw
  unfold gKIn at hw
  split at hw
  · rename_i z
    cases hw
    obtain rfl := ru.str
    obtain ⟨r, h1, h2⟩ := kin_core (hz z)
    exact Res.pure (v := .bl r.isSome) e (by show V.bl _ = V.bl _; rw [h2, Bool.false_bne]) fun Q q => ⟨z, r, rfl, rfl, h1, q⟩
  · cases hw
theorem t_kin {x : Str} {p : Pos} {kc : List (Str × D)} (k : KD X x kc) (hg : Gl X x) (ha : OkE X a A) (hdb : (x == ("__debug__" : Str)) = false := by decide) (hm : behindInMarks .In (.Name x p) = false := by rfl) : OkT X (.Compare a [.In] [.Name x p] pos) (bVal (pOp1 (gKIn false kc) A)) := by
  obtain ⟨d, es, n, hm', hk, hz⟩ := k.ex
  exact PT.imp (pt_cmpR (op_in_kd hk) ha (pe_glob (v := .ref d) hg hm' rfl hdb) hm) (bVal_imp fun σ H Q h => op1_imp (gkin_op hz) σ H Q h)
/-! ### a name of the module: an int, a text -/
theorem e_gint {x : Str} {i : Int} (hg : Gl X x) (hm : ∃ t, X.mg x = some (.int i t)) (hd : (x == ("__debug__" : Str)) = false := by decide) : OkE X (.Name x pos) (pC (.int i)) := by
  obtain ⟨t, hm⟩ := hm
  exact e_const (pe_glob (v := .int i) hg hm ⟨t, rfl⟩ hd) fun _ => rfl
end
/-! ### defs as data -/
/-- a def is worth what its body gives -/
def mkM (n k : Nat) (bd : Fs) : List D → Option W := fun ds => if ds.length = k then (runB n bd ds).bind fun w => if cleanD w.1 w.2 = true then some w else none else none
structure FnG (P : Program) (w : World) (K : PySem.W.Frag) (mg : Str → Option Value) (base : Heap) (k : Nat) (x : Str) (m : List D → Option W) (dd : List D) : Prop where
  ex : ∃ (f : Addr) (fd : FuncData) (ps : List Str) (dvs : List V) (dus : List Value), FnOk P w K mg base CX0 k f fd ps (spD K m) ∧ mg x = some (.ref f) ∧ PySem.W.keepIn K (.ref f) = true ∧ Binds K fd ps dus ∧ Vals dvs dus ∧ ∀ H, RepFs K H dd dvs
  cl : ∀ ds w, m ds = some w → cleanD w.1 w.2 = true
theorem FnG.d {X : Cx} {k j : Nat} {x : Str} {m : List D → Option W} {dd : List D} (F : FnG X.prog X.w X.K X.mg X.base j x m dd) (h : j ≤ k := by decide) : FnD X k x m dd :=
  let ⟨f, fd, ps, dvs, dus, h1, h2⟩ := F.ex
  ⟨⟨f, fd, ps, dvs, dus, h1.mono h, h2⟩, F.cl⟩
section
variable {P : Program} {w : World} {K : PySem.W.Frag} {mg : Str → Option Value} {base : Heap}
theorem mkM_some {n k : Nat} {bd : Fs} {ds : List D} {u : W} (h : mkM n k bd ds = some u) : ds.length = k ∧ runB n bd ds = some u ∧ cleanD u.1 u.2 = true := by
  unfold mkM at h
  split at h
  · rename_i hl
    obtain ⟨v, hv, h⟩ := Option.bind_eq_some_iff.mp h
    split at h
    · rename_i hc
      cases h
      exact ⟨hl, hv, hc⟩
    · cases h
  · cases h
theorem mkM_cl {n k : Nat} {bd : Fs} : ∀ ds u, mkM n k bd ds = some u → cleanD u.1 u.2 = true := fun ds u h => (mkM_some h).2.2
theorem fnM {x qual : Str} {st : Stmt} {f : Addr} {fd : FuncData} {N ps : List Str} {k : Nat} {bd : Fs} (F : Fun K x qual st f fd) (S : FnScope N ps (defScope st))
    (hb : ∀ (cdv : Value) (A : Around) (outer : List PySem.Env) (s : Shared) (H : Hp), Room k (A.deeper (envOfC qual (defScope st) s.heap.objs.size f cdv)) → OkB (cxOf CX0 P w K mg base N qual (defScope st) f cdv A outer s H E0).nox (defBody st) bd) :
    FnOk P w K mg base CX0 (k + 1) f fd ps (spD K (mkM N.length ps.length bd)) :=
  fnD F S (fun ds u h => (mkM_some h).1) hb fun ds u h => (mkM_some h).2.1
theorem FnG.mk' {x : Str} {f : Addr} {fd : FuncData} {ps : List Str} {k n j : Nat} {bd : Fs} (h : FnOk P w K mg base CX0 k f fd ps (spD K (mkM n j bd))) (hm : mg x = some (.ref f)) (hk : PySem.W.keepIn K (.ref f) = true) (hb : Binds K fd ps []) : FnG P w K mg base k x (mkM n j bd) [] :=
  ⟨⟨f, fd, ps, [], [], h, hm, hk, hb, .nil, fun _ => rfl⟩, mkM_cl⟩
end
end Pv
set_option Elab.async false
set_option linter.all false
set_option maxRecDepth 100000
/-! P19: +=, dicts of the module -/
namespace Pv
open PySem PySem.Spec PyProof.Rows L2
section
variable {K : PySem.W.Frag}
theorem hu65 {A : Around} {k : Nat} (hr : Room k A) : A.units + 65 < cLine := by have := hr.un; omega
def gAddI : W → W → Option W
  | (_, .int i), (_, .int j) => some (0, .int (i + j))
  | _, _ => none
theorem g_addI : Op2 K (ipI fun i j => i + j) gAddI := by
  intro G H u v x y Fu Fv w e ru rv hw
  unfold gAddI at hw; split at hw
  · cases hw
    obtain rfl := ru.int
    obtain rfl := rv.int
    exact Res.pure (v := .int _) e rfl fun Q q => ⟨_, _, rfl, rfl, q⟩
  · cases hw
structure KDG (w : World) (K : PySem.W.Frag) (mg : Str → Option Value) (x : Str) (kc : List (Str × D)) : Prop where
  ex : ∃ d es n, mg x = some (.ref d) ∧ KDict K w d es n ∧ ∀ z, match kget kc z with
    | none => PySem.W.nsIn K d z = some none
    | some v => ∃ u x, PySem.W.nsIn K d z = some (some u) ∧ RelV x u ∧ ∀ G, RepF K G v x
theorem KDG.d {X : Cx} {x : Str} {kc : List (Str × D)} (h : KDG X.w X.K X.mg x kc) : KD X x kc := ⟨h.ex⟩
abbrev KEnt (K : PySem.W.Frag) (e : DictEntry) (p : Str × D) : Prop := (∃ t, e.key = .str p.1 t) ∧ ∃ x, RelV x e.val ∧ ∀ G, RepF K G p.2 x
theorem ns_of : ∀ {es : List DictEntry} {kc : List (Str × D)}, Paired (KEnt K) es kc → ∀ z, (match es.find? (·.key.isStr z) with
    | some e => ∃ v, kget kc z = some v ∧ ∃ x, RelV x e.val ∧ ∀ G, RepF K G v x
    | none => kget kc z = none ∧ es.any (·.refKey) = false)
  | _, _, .nil, z => ⟨rfl, rfl⟩
  | e :: es, p :: kc, .cons ⟨⟨t, h1⟩, h2⟩ r, z => by
    have ih := ns_of r z
    rw [List.find?_cons]
    have hk : e.key.isStr z = decide (p.1 = z) := by
      rw [h1]
      show (p.1 == z) = _
      by_cases q : p.1 = z
      · rw [q]; simp
      · rw [decide_eq_false q]; exact beq_eq_false_iff_ne.mpr q
    rw [hk]
    by_cases q : p.1 = z
    · rw [decide_eq_true q]
      refine ⟨p.2, ?_, h2⟩
      unfold kget
      rw [if_pos q]
    · rw [decide_eq_false q]
      dsimp only
      have hg : kget (p :: kc) z = kget kc z := by
        show (if p.1 = z then some p.2 else kget kc z) = _
        rw [if_neg q]
      rw [hg, List.any_cons]
      have hr : e.refKey = false := by unfold DictEntry.refKey; rw [h1]
      rw [hr, Bool.false_or]
      exact ih
theorem KDG.mk' {w : World} {mg : Str → Option Value} {x : Str} {kc : List (Str × D)} {d : Addr} {es : Array DictEntry} {n : Nat} (hm : mg x = some (.ref d)) (lk : K.lookup d = some ⟨.type "dict", none, .dict es n, #[]⟩) (lit : PySem.W.KeysLit w.params es.toList) (lo : (d == sysModules) = false)
    (hp : Paired (KEnt K) es.toList kc) : KDG w K mg x kc := by
  refine ⟨d, es, n, hm, ⟨lk, lit, lo⟩, fun z => ?_⟩
  have := ns_of hp z
  unfold PySem.W.nsIn
  rw [lk]
  dsimp only
  split at this
  · rename_i e he
    obtain ⟨v, h1, y, h2, h3⟩ := this
    rw [h1, he]
    exact ⟨e.val, y, rfl, h2, h3⟩
  · rename_i he
    rw [this.1, he]
    dsimp only
    rw [this.2]
    rfl
end
end Pv
set_option Elab.async false
set_option linter.all false
set_option maxRecDepth 100000
/-! P20: y = x where x is not read again: what x owns goes over to y -/
namespace Pv
open PySem PySem.Spec PyProof.Rows L2
section
variable {X : Cx} {K : PySem.W.Frag} {G0 G G1 G' H H' : Hp} {σ : L2.St} {ρ : Env} {ws : List (V × Arg)} {F F1 F2 : List Addr} {pos : Pos}
theorem Si.take {i : Nat} {w : W} (I : Si K G0 σ ρ [] H G F1 F2) (h : ρ[i]? = some (some w)) : ∃ v F3 F4, σ[i]? = some (some v) ∧ Si K G0 σ (ρ.set i none) [(v, .v w.1 w.2)] H G F3 F4 := by
  have hi : i < ρ.length := (List.getElem?_eq_some_iff.mp h).1
  obtain ⟨Fa, Fi, Fb, e1, e2, _, e3⟩ := RSl.zoom σ ρ F1 i I.sl hi (by rw [I.ln]; exact hi)
  obtain ⟨v, h1, h2⟩ := e2 w h
  have := e3 G H (some v) none [] (Same.refl _) (fun _ _ => rfl) (fun w e => by cases e) (fun _ => rfl)
  have hs : σ.set i (some v) = σ := by
    obtain ⟨hlt, e⟩ := List.getElem?_eq_some_iff.mp h1
    rw [← e, List.set_getElem_self]
  rw [hs] at this
  have e4 : F2 = [] := I.wv
  subst e4 e1
  have nd := I.nd
  have fr := I.fr
  simp only [List.nodup_append, List.mem_append, List.append_nil] at nd fr
  refine ⟨v, Fa ++ [] ++ Fb, Fi, h1, I.ex0, I.ex, this, ⟨Fi, [], by simp, h2, rfl⟩, ?_, fun b hb => fr b ?_, I.tu, by rw [List.length_set]; exact I.ln⟩
  · simp only [List.nodup_append, List.mem_append, List.append_nil]
    refine ⟨⟨nd.1.1, nd.2.1, fun p hp q hq => nd.2.2 p (.inl hp) q hq⟩, nd.1.2.1, fun p hp q hq e => ?_⟩
    rcases hp with hp | hp
    · exact nd.1.2.2 p hp q hq e
    · exact nd.2.2 q (.inr hq) p hp e.symm
  · simp only [List.mem_append, List.append_nil] at hb
    rcases hb with (hb | hb) | hb
    · exact .inl (.inl hb)
    · exact .inr hb
    · exact .inl (.inr hb)
def sMv (i j : Nat) : Fs := fun ρ => ((ρ[i]?).join).bind fun w => if j < ρ.length then some (.nx, (ρ.set i none).set j (some w)) else none
theorem s_mv {i j : Nat} {x y : Str} {p py : Pos} (hN : X.N.Nodup) (hi : X.N[i]? = some x := by rfl) (hj : X.N[j]? = some y := by rfl) (hv : Vis X.env.scope x := by first | exact Or.inl rfl | exact Or.inr (Or.inl rfl) | exact Or.inr (Or.inr rfl)) (hd : (x == ("__debug__" : Str)) = false := by decide) (hcd : (x == ("__classdict__" : Str)) = false := by decide)
    (hx : Loc X.env.scope y := by first | exact Or.inl rfl | exact Or.inr rfl) (hs : swapsWith (.Name x p) (some (.Name y py)) pos.line X.env = pure false := by rfl)
    (hf : X.fn y = true ∨ X.env.scope.names.lookup y = some .local := by first | exact .inl rfl | exact .inr rfl) : OkS X (.Assign [.Name y py] (.Name x p) pos) (sMv i j) :=
  PS.imp (ps_set hN hj hx (pe_var hi hv hd hcd) hs hf) fun D σ H ⟨G0, ρ, fl, ρ', I, hf, post⟩ => by
  obtain ⟨w, hw, hf1⟩ := Option.bind_eq_some_iff.mp hf
  clear hf
  split at hf1
  · rename_i hlt
    cases hf1
    obtain ⟨G, F1, F2, J⟩ := I
    obtain ⟨v, F3, F4, h1, J1⟩ := J.take (join_some hw)
    exact ⟨v, h1, post _ _ (J1.SI.store (by rw [List.length_set]; exact hlt))⟩
  · cases hf1
end
end Pv
set_option Elab.async false
set_option linter.all false
set_option maxRecDepth 100000
/-! P21: how the data run: one lemma for each form, for simp -/
namespace Pv
open PySem
section
variable {ρ : Env} {A B C : Fe} {T U : Fb} {f g : Fs} {i j n k : Nat} {d : D} {w u v : W}
/-- what is behind a statement -/
def thenS : Option (Fl × Env) → Fs → Option (Fl × Env)
  | some (.nx, ρ), g => g ρ
  | some p, _ => some p
  | none, _ => none
theorem r_seq : bSeq f g ρ = thenS (f ρ) g := by
  unfold bSeq thenS
  rcases f ρ with _ | ⟨fl, ρ'⟩
  · rfl
  · cases fl <;> rfl
@[simp] theorem r_seq_nx : thenS (some (.nx, ρ)) g = g ρ := rfl
@[simp] theorem r_seq_rt : thenS (some (.rt w, ρ)) g = some (.rt w, ρ) := rfl
@[simp] theorem r_seq_bk : thenS (some (.bk, ρ)) g = some (.bk, ρ) := rfl
@[simp] theorem r_seq_ct : thenS (some (.ct, ρ)) g = some (.ct, ρ) := rfl
theorem r_nil : bNil ρ = some (.nx, ρ) := rfl
def iteR : Option Bool → Fs → Fs → Env → Option (Fl × Env)
  | some true, f, _, ρ => f ρ
  | some false, _, g, ρ => g ρ
  | none, _, _, _ => none
theorem r_if : sIf T f g ρ = iteR (T ρ) f g ρ := by
  unfold sIf iteR
  rcases T ρ with _ | b
  · rfl
  · cases b <;> rfl
@[simp] theorem r_if_t : iteR (some true) f g ρ = f ρ := rfl
@[simp] theorem r_if_f : iteR (some false) f g ρ = g ρ := rfl
def asgR (i : Nat) : Option Arg → Env → Option (Fl × Env)
  | some (.v k d), ρ => if i < ρ.length then some (.nx, ρ.set i (some (k, d))) else none
  | _, _ => none
theorem r_asg : sAsg i A ρ = asgR i (A ρ) ρ := by
  unfold sAsg asgR putArg
  rcases A ρ with _ | a
  · rfl
  · cases a with
    | v k d =>
      dsimp only [Option.bind_some]
      by_cases h : i < ρ.length
      · simp [h]
      · simp [h]
    | r j => rfl
@[simp] theorem r_asg_v {k : Nat} : asgR i (some (.v k d)) ρ = if i < ρ.length then some (.nx, ρ.set i (some (k, d))) else none := (rfl)
/-! values -/
def argR : Option W → Option Arg
  | some w => some (.v w.1 w.2)
  | none => none
@[simp] theorem r_arg : argR (some w) = some (.v w.1 w.2) := rfl
@[simp] theorem r_c : pC d ρ = some (.v 0 d) := rfl
def pvR : Option W → Option Arg
  | some (0, d) => some (.v 0 d)
  | some (_ + 1, d) => if isBox d then none else some (.v 0 d)
  | none => none
@[simp] theorem r_var : pVar i ρ = pvR (ρ[i]?.join) := by
  unfold pVar pvR
  rcases ρ[i]?.join with _ | ⟨k, d⟩
  · rfl
  · cases k with
    | zero => rfl
    | succ k => simp
@[simp] theorem r_var_0 : pvR (some (0, d)) = some (.v 0 d) := rfl
@[simp] theorem r_var_s : pvR (some (k + 1, d)) = if isBox d then none else some (.v 0 d) := (rfl)
def bvR (i : Nat) : Option W → Option Arg
  | some _ => some (.r i)
  | none => none
@[simp] theorem r_bv : pBv i ρ = bvR i (ρ[i]?.join) := by
  unfold pBv bvR
  rcases ρ[i]?.join with _ | w <;> rfl
@[simp] theorem r_bv_s : bvR i (some w) = some (.r i) := rfl
def pvV : Option W → Option W
  | some (0, d) => some (0, d)
  | some (_ + 1, d) => if isBox d then none else some (0, d)
  | none => none
@[simp] theorem v_c : val (pC d) ρ = some (0, d) := rfl
@[simp] theorem v_bv : val (pBv i) ρ = ρ[i]?.join := by
  unfold val
  rw [r_bv]
  rcases h : ρ[i]?.join with _ | w
  · rfl
  · show ρ[i]?.join = some w
    exact h
@[simp] theorem v_var : val (pVar i) ρ = pvV (ρ[i]?.join) := by
  unfold val
  rw [r_var]
  rcases h : ρ[i]?.join with _ | ⟨k, d⟩
  · rfl
  · cases k with
    | zero => rfl
    | succ k =>
      show (if isBox d = true then none else some (Arg.v 0 d)).bind (Arg.get ρ) = if isBox d = true then none else some (0, d)
      cases isBox d <;> rfl
@[simp] theorem v_var_0 : pvV (some (0, d)) = some (0, d) := rfl
def g1R (g : W → Option W) : Option W → Option W
  | some u => g u
  | none => none
def g2R (g : W → W → Option W) : Option W → Option W → Option W
  | some u, some v => g u v
  | _, _ => none
@[simp] theorem g1_s {g : W → Option W} : g1R g (some u) = g u := rfl
@[simp] theorem g2_s {g : W → W → Option W} : g2R g (some u) (some v) = g u v := rfl
theorem val_arg {x : Option W} {F : Fe} (h : F ρ = argR x) : val F ρ = x := by
  unfold val
  rw [h]
  cases x <;> rfl
@[simp] theorem r_op1 {g : W → Option W} : pOp1 g A ρ = argR (g1R g (val A ρ)) := by
  unfold pOp1 g1R argR
  rcases val A ρ with _ | u
  · rfl
  · dsimp only [Option.bind_some]
    cases g u <;> rfl
@[simp] theorem r_op2 {g : W → W → Option W} : pOp2 g A B ρ = argR (g2R g (val A ρ) (val B ρ)) := by
  unfold pOp2 g2R argR
  rcases val A ρ with _ | u
  · rfl
  · dsimp only [Option.bind_some]
    rcases val B ρ with _ | v
    · rfl
    · dsimp only [Option.bind_some]
      cases g u v <;> rfl
@[simp] theorem v_op1 {g : W → Option W} : val (pOp1 g A) ρ = g1R g (val A ρ) := val_arg r_op1
@[simp] theorem v_op2 {g : W → W → Option W} : val (pOp2 g A B) ρ = g2R g (val A ρ) (val B ρ) := val_arg r_op2
/-! arguments -/
def valA (A : Fa) (ρ : Env) : Option (List W) := (A ρ).bind (getAll ρ)
def consR : Option W → Option (List W) → Option (List W)
  | some u, some us => some (u :: us)
  | _, _ => none
@[simp] theorem va_nil : valA aNil ρ = some [] := rfl
@[simp] theorem va_cons {B : Fa} : valA (aCons A B) ρ = consR (val A ρ) (valA B ρ) := by
  unfold valA aCons val consR
  rcases A ρ with _ | a
  · rfl
  · dsimp only [Option.bind_some]
    rcases B ρ with _ | as
    · dsimp only [Option.map_none, Option.bind_none]
      cases a.get ρ <;> rfl
    · show getAll ρ (a :: as) = _
      unfold getAll
      dsimp only [Option.bind_some]
      cases a.get ρ with
      | none => rfl
      | some w => cases getAll ρ as <;> rfl
@[simp] theorem consR_s {us : List W} : consR (some u) (some us) = some (u :: us) := rfl
def gNR (g : List W → Option W) : Option (List W) → Option W
  | some us => g us
  | none => none
@[simp] theorem gN_s {g : List W → Option W} {us : List W} : gNR g (some us) = g us := rfl
@[simp] theorem on1_s {g : W → Option W} : on1 g [u] = g u := rfl
@[simp] theorem r_call {g : List W → Option W} {B : Fa} : pCall g B ρ = argR (gNR g (valA B ρ)) := by
  unfold pCall valA gNR argR
  rcases B ρ with _ | as
  · rfl
  · dsimp only [Option.bind_some]
    rcases getAll ρ as with _ | us
    · rfl
    · dsimp only [Option.bind_some]
      cases g us <;> rfl
@[simp] theorem v_call {g : List W → Option W} {B : Fa} : val (pCall g B) ρ = gNR g (valA B ρ) := val_arg r_call
def fnR (m : List D → Option W) (dd : List D) : Option (List W) → Option W
  | some us => m (us.map (·.2) ++ dd)
  | none => none
@[simp] theorem fn_s {m : List D → Option W} {dd : List D} {us : List W} : fnR m dd (some us) = m (us.map (·.2) ++ dd) := rfl
@[simp] theorem r_fn {m : List D → Option W} {dd : List D} {B : Fa} : pFn m dd B ρ = argR (fnR m dd (valA B ρ)) := by
  unfold pFn valA fnR argR
  rcases B ρ with _ | as
  · rfl
  · dsimp only [Option.bind_some]
    rcases getAll ρ as with _ | us
    · rfl
    · dsimp only [Option.bind_some]
      cases m (us.map (·.2) ++ dd) <;> rfl
@[simp] theorem v_fn {m : List D → Option W} {dd : List D} {B : Fa} : val (pFn m dd B) ρ = fnR m dd (valA B ρ) := val_arg r_fn
/-! displays: their items are values of their own -/
def ownV (A : Fa) (ρ : Env) : Option (List D) := (A ρ).bind ownAll
def ownC : Option Arg → Option (List D) → Option (List D)
  | some (.v _ d), some ds => some (d :: ds)
  | _, _ => none
@[simp] theorem ow_nil : ownV aNil ρ = some [] := rfl
@[simp] theorem ow_cons {B : Fa} : ownV (aCons A B) ρ = ownC (A ρ) (ownV B ρ) := by
  unfold ownV aCons ownC
  rcases A ρ with _ | a
  · rfl
  · dsimp only [Option.bind_some]
    rcases B ρ with _ | as
    · cases a <;> rfl
    · cases a with
      | v k d =>
        show (ownAll as).map _ = _
        dsimp only [Option.bind_some]
        cases ownAll as <;> rfl
      | r j => rfl
@[simp] theorem ownC_s {ds : List D} : ownC (some (.v k d)) (some ds) = some (d :: ds) := rfl
theorem own_len : ∀ {as : List Arg} {ds : List D}, ownAll as = some ds → as.length = ds.length
  | [], _, h => by cases h; rfl
  | .v k d :: as, _, h => by
    obtain ⟨ds, hd, rfl⟩ := Option.map_eq_some_iff.mp h
    rw [List.length_cons, List.length_cons, own_len hd]
  | .r _ :: _, _, h => by cases h
def dispR (k : Nat) (c : List D → D) : Option (List D) → Option W
  | some ds => if ds.length ≤ 1000 then some (k, c ds) else none
  | none => none
@[simp] theorem disp_s {c : List D → D} {ds : List D} : dispR k c (some ds) = if ds.length ≤ 1000 then some (k, c ds) else none := (rfl)
theorem disp_of {c : List D → D} {B : Fa} : ((B ρ).bind fun as => if as.length ≤ 1000 then (ownAll as).map fun ds => Arg.v k (c ds) else none) = argR (dispR k c (ownV B ρ)) := by
  unfold ownV dispR argR
  rcases B ρ with _ | as
  · rfl
  · dsimp only [Option.bind_some]
    rcases h : ownAll as with _ | ds
    · by_cases hl : as.length ≤ 1000
      · rw [if_pos hl]; rfl
      · rw [if_neg hl]
    · have := own_len h
      by_cases hl : as.length ≤ 1000
      · rw [if_pos hl]
        dsimp only [Option.map_some]
        rw [if_pos (by omega)]
      · rw [if_neg hl]
        dsimp only
        rw [if_neg (by omega)]
@[simp] theorem r_tup {B : Fa} : pTup B ρ = argR (dispR 0 .tup (ownV B ρ)) := disp_of
@[simp] theorem r_ktup {B : Fa} : pKTup B ρ = argR (dispR 0 .ktp (ownV B ρ)) := disp_of
@[simp] theorem r_lst {B : Fa} : pLst B ρ = argR (dispR 1 .lst (ownV B ρ)) := disp_of
@[simp] theorem v_tup {B : Fa} : val (pTup B) ρ = dispR 0 .tup (ownV B ρ) := val_arg r_tup
@[simp] theorem v_ktup {B : Fa} : val (pKTup B) ρ = dispR 0 .ktp (ownV B ρ) := val_arg r_ktup
@[simp] theorem v_lst {B : Fa} : val (pLst B) ρ = dispR 1 .lst (ownV B ρ) := val_arg r_lst
/-! tests -/
def blR : Option W → Option Bool
  | some (_, .bl b) => some b
  | _ => none
@[simp] theorem t_vl : bVal A ρ = blR (val A ρ) := by
  unfold bVal blR
  rcases val A ρ with _ | ⟨k, d⟩
  · rfl
  · cases d <;> rfl
@[simp] theorem bl_s {b : Bool} : blR (some (k, .bl b)) = some b := rfl
def notR : Option Bool → Option Bool
  | some b => some (!b)
  | none => none
@[simp] theorem t_nt : bNot T ρ = notR (T ρ) := by unfold bNot notR; cases T ρ <;> rfl
@[simp] theorem not_s {b : Bool} : notR (some b) = some (!b) := rfl
def andR : Option Bool → Fb → Env → Option Bool
  | some true, U, ρ => U ρ
  | some false, _, _ => some false
  | none, _, _ => none
def orR : Option Bool → Fb → Env → Option Bool
  | some false, U, ρ => U ρ
  | some true, _, _ => some true
  | none, _, _ => none
@[simp] theorem t_an : bAnd T U ρ = andR (T ρ) U ρ := by
  unfold bAnd andR
  rcases T ρ with _ | b
  · rfl
  · cases b <;> rfl
@[simp] theorem t_or : bOr T U ρ = orR (T ρ) U ρ := by
  unfold bOr orR
  rcases T ρ with _ | b
  · rfl
  · cases b <;> rfl
@[simp] theorem and_t : andR (some true) U ρ = U ρ := rfl
@[simp] theorem and_f : andR (some false) U ρ = some false := rfl
@[simp] theorem or_t : orR (some true) U ρ = some true := rfl
@[simp] theorem or_f : orR (some false) U ρ = U ρ := rfl
def truR : Option W → Option Bool
  | some w => truth w
  | none => none
@[simp] theorem t_tr : bTru A ρ = truR (val A ρ) := by unfold bTru truR; cases val A ρ <;> rfl
@[simp] theorem tru_s : truR (some w) = truth w := rfl
def ifR : Option Bool → Fe → Fe → Env → Option Arg
  | some true, A, _, ρ => A ρ
  | some false, _, B, ρ => B ρ
  | none, _, _, _ => none
@[simp] theorem r_ife : pIf T A B ρ = ifR (T ρ) A B ρ := by
  unfold pIf ifR
  rcases T ρ with _ | b
  · rfl
  · cases b <;> rfl
@[simp] theorem ife_t : ifR (some true) A B ρ = A ρ := rfl
@[simp] theorem ife_f : ifR (some false) A B ρ = B ρ := rfl
/-! statements -/
def appR (i : Nat) : Option W → Option Arg → Env → Option (Fl × Env)
  | some (k + 1, .lst ds), some (.v j d), ρ => if lvlOk k j d = true ∧ ds.length < big then some (.nx, ρ.set i (some (k + 1, .lst (ds ++ [d])))) else none
  | _, _, _ => none
@[simp] theorem r_app : sApp i A ρ = appR i (ρ[i]?.join) (A ρ) ρ := by
  unfold sApp appR
  rcases ρ[i]?.join with _ | ⟨k, d⟩
  · rfl
  · cases k with
    | zero => cases d <;> rfl
    | succ k =>
      cases d <;> first | rfl | skip
      rcases A ρ with _ | a
      · rfl
      · cases a <;> rfl
@[simp] theorem app_s {ds : List D} : appR i (some (1, .lst ds)) (some (.v j d)) ρ = if ds.length < big then some (.nx, ρ.set i (some (1, .lst (ds ++ [d])))) else none := by
  unfold appR lvlOk
  simp
def augR (i : Nat) (g : W → W → Option W) : Option W → Option W → Env → Option (Fl × Env)
  | some u, some v, ρ => (match g u v with | some w => if i < ρ.length then some (.nx, ρ.set i (some w)) else none | none => none)
  | _, _, _ => none
@[simp] theorem r_aug {g : W → W → Option W} : sAug i g A ρ = augR i g (ρ[i]?.join) (val A ρ) ρ := by
  unfold sAug augR
  rcases ρ[i]?.join with _ | u
  · rfl
  · dsimp only [Option.bind_some]
    rcases val A ρ with _ | v
    · rfl
    · dsimp only [Option.bind_some]
      cases g u v <;> rfl
@[simp] theorem aug_s {m n : Int} {k l : Nat} : augR i gAddI (some (k, .int m)) (some (l, .int n)) ρ = if i < ρ.length then some (.nx, ρ.set i (some (0, .int (m + n)))) else none := (rfl)
def retB : Option W → Env → Option (Fl × Env)
  | some w, ρ => some (.rt w, ρ)
  | none, _ => none
def retR : Option Arg → Env → Option (Fl × Env)
  | some (.v k d), ρ => some (.rt (k, d), ρ)
  | some (.r i), ρ => retB (ρ[i]?.join) ρ
  | none, _ => none
@[simp] theorem r_ret : sRet A ρ = retR (A ρ) ρ := by
  unfold sRet retR
  rcases A ρ with _ | a
  · rfl
  · cases a with
    | v k d => rfl
    | r i =>
      show ((ρ[i]?).join).map _ = retB _ _
      unfold retB
      cases ρ[i]?.join <;> rfl
@[simp] theorem ret_v : retR (some (.v k d)) ρ = some (.rt (k, d), ρ) := rfl
@[simp] theorem ret_r : retR (some (.r i)) ρ = retB (ρ[i]?.join) ρ := rfl
@[simp] theorem retB_s : retB (some w) ρ = some (.rt w, ρ) := rfl
def parR (is : List Nat) : Option (List Arg) → Env → Option (Fl × Env)
  | some as, ρ => (match putAll is as ρ with | some ρ' => some (.nx, ρ') | none => none)
  | none, _ => none
@[simp] theorem r_par {is : List Nat} {B : Fa} : sPar is B ρ = parR is (B ρ) ρ := by
  unfold sPar parR
  rcases B ρ with _ | as
  · rfl
  · dsimp only [Option.bind_some]
    cases putAll is as ρ <;> rfl
def cR : Option Arg → Option (List Arg) → Option (List Arg)
  | some a, some as => some (a :: as)
  | _, _ => none
@[simp] theorem a_nl : aNil ρ = some [] := rfl
@[simp] theorem a_cn {B : Fa} : aCons A B ρ = cR (A ρ) (B ρ) := by
  unfold aCons cR
  rcases A ρ with _ | a
  · rfl
  · dsimp only [Option.bind_some]
    cases B ρ <;> rfl
@[simp] theorem cR_s {a : Arg} {as : List Arg} : cR (some a) (some as) = some (a :: as) := rfl
@[simp] theorem par_2 {k1 k2 : Nat} {d1 d2 : D} : parR [i, j] (some [.v k1 d1, .v k2 d2]) ρ = if i < ρ.length ∧ j < ρ.length then some (.nx, (ρ.set i (some (k1, d1))).set j (some (k2, d2))) else none := by
  unfold parR putAll putArg
  by_cases h1 : i < ρ.length
  · by_cases h2 : j < ρ.length
    · simp [h1, h2, putAll, putArg]
    · simp [h1, h2, putAll, putArg]
  · simp [h1]
def forR (t : Tg) (f : Fs) : Option (List D) → Env → Option (Fl × Env)
  | some ds, ρ => loopF t f ds ρ
  | none, _ => none
@[simp] theorem r_for {it : Fit} {t : Tg} : sFor it t f ρ = forR t f (it ρ) ρ := by
  unfold sFor forR
  cases it ρ <;> rfl
@[simp] theorem for_s {t : Tg} {ds : List D} : forR t f (some ds) ρ = loopF t f ds ρ := rfl
def seqR : Option Arg → Option (List D)
  | some (.v _ d) => (seqD d).map (·.2)
  | _ => none
@[simp] theorem i_sq : iSeq A ρ = seqR (A ρ) := by
  unfold iSeq seqR
  rcases A ρ with _ | a
  · rfl
  · cases a <;> rfl
@[simp] theorem seq_s : seqR (some (.v k d)) = (seqD d).map (·.2) := rfl
def rngR : Option W → Option (List D)
  | some (_, .int n) => if -1000000000 ≤ n ∧ n ≤ 1000000000 then some (rngD 0 n.toNat) else none
  | _ => none
@[simp] theorem i_rg : iRange1 A ρ = rngR (val A ρ) := by
  unfold iRange1 rngR
  rcases val A ρ with _ | ⟨k, d⟩
  · rfl
  · cases d <;> rfl
@[simp] theorem rng_s {n : Int} : rngR (some (k, .int n)) = if -1000000000 ≤ n ∧ n ≤ 1000000000 then some (rngD 0 n.toNat) else none := (rfl)
def frzR (i : Nat) (f : Fs) : Option W → Env → Option (Fl × Env)
  | some w, ρ => f (ρ.set i (some (0, w.2)))
  | none, _ => none
@[simp] theorem r_frz : bFrz i f ρ = frzR i f (ρ[i]?.join) ρ := by
  unfold bFrz frzR
  cases ρ[i]?.join <;> rfl
@[simp] theorem frz_s : frzR i f (some w) ρ = f (ρ.set i (some (0, w.2))) := rfl
/-! defs -/
def finR : Option (Fl × Env) → Option W
  | some (.rt w, _) => if cleanD w.1 w.2 = true then some w else none
  | some (.nx, _) => some (0, .non)
  | _ => none
theorem r_m {n k : Nat} {bd : Fs} {ds : List D} (h : ds.length = k) : mkM n k bd ds = finR (bd (initE n ds)) := by
  unfold mkM runB
  rw [if_pos h]
  rcases bd (initE n ds) with _ | ⟨fl, ρ⟩
  · rfl
  · cases fl <;> rfl
@[simp] theorem fin_rt : finR (some (.rt w, ρ)) = if cleanD w.1 w.2 = true then some w else none := (rfl)
@[simp] theorem fin_nx : finR (some (.nx, ρ)) = some (0, .non) := rfl
def stepL (t : Tg) (f : Fs) (ds : List D) : Option (Fl × Env) → Option (Fl × Env)
  | some (.nx, ρ) => loopF t f ds ρ
  | some (.ct, ρ) => loopF t f ds ρ
  | some (.bk, ρ) => some (.nx, ρ)
  | some (.rt w, ρ) => some (.rt w, ρ)
  | none => none
theorem l_nil {t : Tg} : loopF t f [] ρ = some (.nx, ρ) := rfl
def bindR (t : Tg) (f : Fs) (ds : List D) : Option Env → Option (Fl × Env)
  | some ρ => stepL t f ds (f ρ)
  | none => none
theorem l_cons {t : Tg} {ds : List D} : loopF t f (d :: ds) ρ = bindR t f ds (bindT t (0, d) ρ) := by
  unfold bindR
  show (bindT t (0, d) ρ).bind _ = _
  rcases bindT t (0, d) ρ with _ | ρ1
  · rfl
  · unfold stepL
    dsimp only [Option.bind_some]
    rcases f ρ1 with _ | ⟨fl, ρ2⟩
    · rfl
    · cases fl <;> rfl
theorem bindR_s {t : Tg} {ds : List D} : bindR t f ds (some ρ) = stepL t f ds (f ρ) := rfl
theorem step_nx {t : Tg} {ds : List D} : stepL t f ds (some (.nx, ρ)) = loopF t f ds ρ := rfl
theorem step_rt {t : Tg} {ds : List D} : stepL t f ds (some (.rt w, ρ)) = some (.rt w, ρ) := rfl
theorem bind_nm : bindT (.nm i) w ρ = if i < ρ.length then some (ρ.set i (some w)) else none := rfl
end
end Pv
set_option Elab.async false
set_option linter.all false
set_option maxRecDepth 100000
/-! P22: how the data run: walks, dicts, comprehensions -/
namespace Pv
open PySem
section
variable {ρ ρ1 : Env} {A B C : Fe} {T U : Fb} {f g : Fs} {i j n k : Nat} {d c : D} {w u v : W} {t : Tg}
def zipQ : Option (Bool × List D) → Option (Bool × List D) → Option (List D)
  | some p, some q => some (zipF p.2 q.2)
  | _, _ => none
def zipR : Option Arg → Option Arg → Option (List D)
  | some (.v _ d), some (.v _ c) => zipQ (seqD d) (seqD c)
  | _, _ => none
@[simp] theorem i_zp : iZip A B ρ = zipR (A ρ) (B ρ) := by
  unfold iZip
  rw [a_cn, a_cn, a_nl]
  unfold cR zipR
  rcases A ρ with _ | a
  · rfl
  · rcases B ρ with _ | b
    · cases a <;> rfl
    · cases a with
      | r x => rfl
      | v k d =>
        cases b with
        | r y => rfl
        | v j c =>
          show ((seqD d).bind fun p => (seqD c).map fun q => zipF p.2 q.2) = zipQ (seqD d) (seqD c)
          unfold zipQ
          cases seqD d with
          | none => rfl
          | some p => cases seqD c <;> rfl
@[simp] theorem zip_s : zipR (some (.v j d)) (some (.v k c)) = zipQ (seqD d) (seqD c) := rfl
@[simp] theorem zipQ_s {p q : Bool × List D} : zipQ (some p) (some q) = some (zipF p.2 q.2) := rfl
def enQ : Option (Bool × List D) → Option (List D)
  | some p => some (enumF 0 p.2)
  | none => none
def enR : Option Arg → Option (List D)
  | some (.v _ d) => enQ (seqD d)
  | _ => none
@[simp] theorem i_en : iEnum A ρ = enR (A ρ) := by
  unfold iEnum
  rw [a_cn, a_nl]
  unfold cR enR
  rcases A ρ with _ | a
  · rfl
  · cases a with
    | r x => rfl
    | v k d =>
      show ((seqD d).map fun p => enumF 0 p.2) = enQ (seqD d)
      unfold enQ
      cases seqD d <;> rfl
@[simp] theorem en_s : enR (some (.v j d)) = enQ (seqD d) := rfl
@[simp] theorem enQ_s {p : Bool × List D} : enQ (some p) = some (enumF 0 p.2) := rfl
/-! dicts, items -/
def putR (i : Nat) : Option Arg → Option W → Option W → Env → Option (Fl × Env)
  | some (.v _ d), some (1, .dct t kvs), some u, ρ => if kvs.length < big then (match keyD t u.2 with | some ks => some (.nx, ρ.set i (some (1, .dct t (putD kvs ks d)))) | none => none) else none
  | _, _, _, _ => none
@[simp] theorem r_put : sPut i B A ρ = putR i (A ρ) (ρ[i]?.join) (val B ρ) ρ := by
  unfold sPut putR
  rcases A ρ with _ | a
  · rfl
  · cases a with
    | r x => rfl
    | v k d =>
      dsimp only [Option.bind_some]
      rcases ρ[i]?.join with _ | ⟨k2, d2⟩
      · rfl
      · dsimp only [Option.bind_some]
        split
        · rename_i h
          cases h
          rcases val B ρ with _ | u
          · rfl
          · dsimp only [Option.bind_some]
            split
            · rename_i hz
              simp only [hz, if_true]
              cases keyD _ u.2 <;> rfl
            · rename_i hz
              simp only [hz, if_false]
        · rename_i h
          split
          · rename_i h1 h2 h3 h4
            cases h3
            exact absurd rfl (h _ _)
          · rfl
@[simp] theorem put_s {t : Bool} {kvs : List (List L2.Key × D)} {ks : List L2.Key} {l : Nat} {x : D} (h : keyD t x = some ks) : putR i (some (.v j d)) (some (1, .dct t kvs)) (some (l, x)) ρ = if kvs.length < big then some (.nx, ρ.set i (some (1, .dct t (putD kvs ks d)))) else none := by
  show (if kvs.length < big then (match keyD t x with | some ks => some (Fl.nx, ρ.set i (some (1, .dct t (putD kvs ks d)))) | none => none) else none) = _
  rw [h]
def setR (i : Nat) : Option Arg → Option W → Option W → Env → Option (Fl × Env)
  | some (.v _ d), some (1, .lst ds), some (_, .int n), ρ => (match setAt ds n d with | some ds' => some (.nx, ρ.set i (some (1, .lst ds'))) | none => none)
  | _, _, _, _ => none
theorem r_set {ds : List D} {m : Int} (h1 : A ρ = some (.v j d)) (h2 : ρ[i]?.join = some (1, .lst ds)) (h3 : val B ρ = some (k, .int m)) {ds' : List D} (h4 : setAt ds m d = some ds') : sSet i B A ρ = some (.nx, ρ.set i (some (1, .lst ds'))) := by
  unfold sSet
  rw [h1]
  dsimp only [Option.bind_some]
  rw [h2]
  dsimp only [Option.bind_some]
  rw [h3]
  show Option.map _ (setAt ds m d) = _
  rw [h4]
  rfl
def kg2R (kc : List (Str × D)) : Option W → Option Arg → Option Arg
  | some (_, .str z), some (.v _ d) => some (.v 0 ((kget kc z).getD d))
  | _, _ => none
@[simp] theorem r_kg2 {kc : List (Str × D)} : pKGet2 kc B C ρ = kg2R kc (val B ρ) (C ρ) := by
  unfold pKGet2 kg2R
  rcases val B ρ with _ | ⟨k, d⟩
  · rfl
  · dsimp only [Option.bind_some]
    rcases C ρ with _ | c
    · cases d <;> rfl
    · cases d <;> cases c <;> rfl
@[simp] theorem kg2_s {kc : List (Str × D)} {z : Str} : kg2R kc (some (j, .str z)) (some (.v k d)) = some (.v 0 ((kget kc z).getD d)) := rfl
/-! comprehensions -/
theorem compL_of {X : D → D} {p : D → Bool} : ∀ {ds : List D}, (∀ d ∈ ds, ∃ ρ1, bindT t (0, d) ρ = some ρ1 ∧ T ρ1 = some (p d) ∧ (p d = true → ∃ k, A ρ1 = some (.v k (X d)))) → compL t T A 0 ρ ds = some ((ds.filter p).map X)
  | [], _ => rfl
  | d :: ds, h => by
    have ih := compL_of (X := X) (p := p) (ds := ds) fun d' hd => h d' (List.mem_cons_of_mem _ hd)
    obtain ⟨ρ1, h1, h2, h3⟩ := h d List.mem_cons_self
    show ((bindT t (0, d) ρ).bind _) = _
    rw [h1]
    dsimp only [Option.bind_some]
    rw [h2]
    dsimp only [Option.bind_some]
    cases hp : p d with
    | true =>
      obtain ⟨k, h4⟩ := h3 hp
      rw [if_pos rfl, h4]
      dsimp only [Option.bind_some]
      rw [if_pos (by rfl), ih, List.filter_cons_of_pos hp]
      rfl
    | false =>
      rw [if_neg Bool.false_ne_true, ih, List.filter_cons_of_neg (by rw [hp]; exact Bool.false_ne_true)]
theorem r_lc {it : Fit} {vs : List Nat} {ds out : List D} (h0 : (vs.all fun v => lvl0 ρ[v]?) = true) (h1 : it ρ = some ds) (h2 : ds.length ≤ big) (h3 : compL t T A 0 (wipeE ρ vs) ds = some out) : pLc 0 it t vs T A ρ = some (.v 1 (.lst out)) := by
  unfold pLc
  rw [if_pos h0, h1]
  dsimp only [Option.bind_some]
  rw [if_pos h2, h3]
  rfl
theorem v_lc {it : Fit} {vs : List Nat} {ds out : List D} (h0 : (vs.all fun v => lvl0 ρ[v]?) = true) (h1 : it ρ = some ds) (h2 : ds.length ≤ big) (h3 : compL t T A 0 (wipeE ρ vs) ds = some out) : val (pLc 0 it t vs T A) ρ = some (1, .lst out) := by
  unfold val
  rw [r_lc h0 h1 h2 h3]; rfl
def lcI : Option W → Option (List D)
  | some (k, .lst ds) => if k ≤ 1 then some ds else none
  | _ => none
@[simp] theorem i_lc : iLc A ρ = lcI (val A ρ) := by
  unfold iLc lcI
  rcases val A ρ with _ | ⟨k, d⟩
  · rfl
  · cases d <;> rfl
@[simp] theorem lcI_s {ds : List D} : lcI (some (k, .lst ds)) = if k ≤ 1 then some ds else none := (rfl)
/-- the turns that a while takes -/
theorem w_stop {m : Nat} (h : T ρ = some false) : loopW T f (m + 1) ρ = some (.nx, ρ) := by
  show (T ρ).bind _ = _
  rw [h]; rfl
theorem w_go {m : Nat} (h : T ρ = some true) (h2 : f ρ = some (.nx, ρ1)) : loopW T f (m + 1) ρ = loopW T f m ρ1 := by
  show (T ρ).bind _ = _
  rw [h]
  dsimp only [Option.bind_some]
  rw [if_pos rfl, h2]
  rfl
end
end Pv
set_option Elab.async false
set_option linter.all false
set_option maxRecDepth 100000
/-! P23: list.count, d.get(k) -/
namespace Pv
open PySem PySem.Spec PyProof.Rows L2
section
variable {X : Cx} {K : PySem.W.Frag} {G0 G G1 G' H H' : Hp} {σ : L2.St} {ρ : Env} {ws : List (V × Arg)} {F F1 F2 : List Addr} {e a b c tg : Expr} {es : List Expr} {pos : Pos} {A B C : Fe}
theorem bmL_imp {r : V → List V → Hp → VK → Prop} {T : String} {g : W → W → Option W} (hg : Op2 K (fun x y H Q => r x [y] H Q) g) (hr : ∀ G H u v x F w, Same G H → RO K G H u.1 u.2 x F → g u v = some w → tyV K T x H) (σ : L2.St) (H : Hp) (Q : VK) (h : tE K (pOp2 g A B) σ H Q) : tBM K T r (tE K A) (tA K (aCons B aNil)) σ H Q := by
  obtain ⟨G0, ρ, ws, a, I, hf, q⟩ := h
  obtain ⟨u, hu, hf⟩ := Option.bind_eq_some_iff.mp hf
  obtain ⟨v, hv, hf⟩ := Option.bind_eq_some_iff.mp hf
  obtain ⟨w, hw, rfl⟩ := Option.map_eq_some_iff.mp hf
  obtain ⟨a1, ha, hg1⟩ := val_some hu
  obtain ⟨a2, hb, hg2⟩ := val_some hv
  refine ⟨G0, ρ, ws, a1, I, ha, fun x H1 I1 => ⟨?_, G0, ρ, (x, a1) :: ws, [a2], I1, by simp [aCons, aNil, hb], fun vs H2 hl I2 => ?_⟩⟩
  · obtain ⟨G, F1, F2, J⟩ := I1
    obtain ⟨Fx, rx⟩ := J.top hg1
    exact hr G H1 u v x Fx w J.ex rx hw
  · match vs, hl, I2 with
    | [y], _, I2 =>
      obtain ⟨G, F1, F2, J⟩ := I2
      obtain ⟨Fy, ry⟩ := Si.top (ws := (x, a1) :: ws) J hg2
      obtain ⟨Fx, rx⟩ := Si.next (ws := ws) J hg1
      refine hg G H2 u v x y Fx Fy w J.ex rx ry hw Q fun z H' G' F' gr rv => ?_
      obtain ⟨F2', _, J'⟩ := Si.drop (ws := (x, a1) :: ws) J
      obtain ⟨F3', _, J''⟩ := Si.drop (ws := ws) J'
      exact q z H' (J''.push gr rv).SI
/-! ### xs.count(x) -/
def rLCountD (K : PySem.W.Frag) : V → List V → Hp → VK → Prop := fun x xs H Q => ∃ (a : Addr) (zs : List V) (y : V) (d : PyData) (ds : List PyData), x = V.ref a ∧ xs = [y] ∧ SqL K H a zs ∧ DpAll K H zs ds ∧ Dp K H y d ∧
  SeqAt.shaped (.tuple ds) = true ∧ SeqAt.shaped d = true ∧ Q (.int ((ds.countP fun z => PyData.eqv z d : Nat))) H
theorem mt_lcountD (hu : X.A.units + 65 < cLine) : MtR X "list.count" (rLCountD X.K) := by
  intro pins s σ H x xs v us Q I rx rxs h
  obtain ⟨a, zs, y, d, ds, rfl, rfl, hs, ha, hy, sl, sd, q⟩ := h
  cases rx
  cases rxs with
  | cons ry rt =>
    rename_i uy ut
    cases rt
    obtain ⟨bs, r1⟩ := Dp.reads I d y uy hy ry
    have hxs : PyData.canLayAll0 ds = true := SeqAt.canLay_of_shaped sl
    have hroom : X.A.units + 1 + min (PyData.depthAll ds) d.depth < cLine := room_in_shaped sd hu
    obtain ⟨its, rv, ⟨⟨cls, dd, data, sls⟩, n, ho, hc, hdn, hdt⟩, hlen⟩ := I.list hs
    simp only at hc hdt
    subst hc hdt
    obtain ⟨as, h4⟩ := Dp.readsAll I ds _ its ha rv
    have hmap : its.map (SeqAt.readOf s.heap) = ds := SeqAt.readsAll_map ds its as hxs h4
    have ec : its.toArray.toList.countP (fun u => PyData.eqv (SeqAt.readOf s.heap u) d) = ds.countP fun z => PyData.eqv z d := by
      show its.countP _ = _
      rw [← hmap, List.countP_map]; rfl
    refine call_meets PySem.F.slot_list_count ⟨_, ho, rfl⟩ PySem.F.entry_list_count (PySem.F.args_list_count_2 _ _)
      (SeqAt.list_countAt a its.toArray n dd sls uy (fun u => PyData.eqv (SeqAt.readOf s.heap u) d)) ⟨ho, SeqAt.items_eqAt (vs := its.toArray) (show ReadsAll s.heap its.toArray.toList ds as from h4) r1 hxs (SeqAt.canLay_of_shaped sd) hroom, ?_⟩
    rw [ec]
    exact ⟨.int _, H, I.tok _, ⟨_, rfl⟩, q⟩
def gCount : W → W → Option W
  | (k, .lst ds), (j, d) => if k ≤ 1 ∧ eqOk (j, d) = true then (toPys ds).bind fun ps => (toPy d).bind fun p => if SeqAt.shaped (.tuple ps) = true ∧ SeqAt.shaped p = true then some (0, .int ((ps.countP fun z => PyData.eqv z p : Nat))) else none else none
  | _, _ => none
theorem g_count : Op2 K (fun x y H Q => rLCountD K x [y] H Q) gCount := by
  intro G H u v x y Fu Fv w e ru rv hw
  unfold gCount at hw
  split at hw
  · split at hw
    · rename_i hk
      obtain ⟨ps, hps, hw⟩ := Option.bind_eq_some_iff.mp hw
      obtain ⟨p, hp, hw⟩ := Option.bind_eq_some_iff.mp hw
      split at hw
      · rename_i ok
        cases hw
        obtain ⟨a, xs, rfl, h1, h2⟩ := ru.lst1 e hk.1
        exact Res.pure (v := .int _) e rfl fun Q q => ⟨a, xs, y, p, ps, rfl, rfl, SqL.of h1, dps_of e _ ps xs hps h2, dp_ro e hk.2 hp rv, ok.1, ok.2, q⟩
      · cases hw
    · cases hw
  · cases hw
theorem e_count {apos cpos : Pos} (hu : X.A.units + 65 < cLine) (ha : OkE X a A) (hb : OkE X b B) (hfew : ((backTo cpos (starEach (b :: []) X.env)).all (fun x => !x.1) && (backToKw cpos (keywordEach [] X.env)).all (fun x => x.1.isSome)
      && decide ((b :: []).length + ([] : List Keyword).length + (if ([] : List Keyword).isEmpty then 0 else 1) < 30)) = true := by rfl) (hbase : attributeBase a "count" X.env (eval a X.env) = eval a X.env := by rfl)
    (hline : (apos.endLine == cpos.line) = true := by rfl) (hs : starEach (b :: []) X.env = (false, eval b X.env) :: starEach [] X.env := by rfl) : OkE X (.Call (.Attribute a "count" apos) [b] [] cpos) (pOp2 gCount A B) :=
  PE.imp (pe_bm PySem.F.plainAttrs_list PySem.F.slot_list_count PySem.F.type_list_count (mt_lcountD hu) ha (a_cons hb a_nil hs) hbase hfew hline hs (by rfl)) (bmL_imp g_count fun G H u v x F w e ru hw => by
    unfold gCount at hw
    split at hw
    · split at hw
      · rename_i hk
        obtain ⟨a, xs, rfl, h1, h2⟩ := ru.lst1 e hk.1
        exact .inl ⟨rfl, _, SqL.of h1⟩
      · cases hw
    · cases hw)
/-! ### d.get(k) -/
def gDGet1 : W → W → Option W
  | (k, .dct t kvs), (_, d) => if k ≤ 1 then (keyD t d).map fun ks => (0, (valD kvs ks).getD .non) else none
  | _, _ => none
theorem e_dget1 {apos cpos : Pos} (hu : X.A.units + 1 < cLine) (ha : OkE X a A) (hb : OkE X b B) (m : M1 X a "get" apos b cpos := by exact ⟨rfl, rfl, rfl, rfl⟩) : OkE X (.Call (.Attribute a "get" apos) [b] [] cpos) (pOp2 gDGet1 A B) :=
  PE.imp (pe_dget1 hu ha hb m) fun σ H Q ⟨G0, ρ, ws, x, I, hf, q⟩ => by
  obtain ⟨⟨k, du⟩, hu, hf1⟩ := Option.bind_eq_some_iff.mp hf
  obtain ⟨v, hv, hf2⟩ := Option.bind_eq_some_iff.mp hf1
  obtain ⟨w, hw, rfl⟩ := Option.map_eq_some_iff.mp hf2
  clear hf hf1 hf2
  cases du <;> first | (cases hw; done) | skip
  rename_i t kvs
  unfold gDGet1 at hw
  simp only at hw
  split at hw
  · rename_i hk
    obtain ⟨ks, hks, rfl⟩ := Option.map_eq_some_iff.mp hw
    obtain ⟨a1, ha, hg1⟩ := val_some hu
    obtain ⟨a2, hb, hg2⟩ := val_some hv
    refine ⟨G0, ρ, ws, a1, I, ha, fun x1 H1 I1 => ?_⟩
    have hx1 : ∃ p, x1 = .ref p ∧ IsD H1 p := by
      obtain ⟨G, F1, F2, J⟩ := I1
      obtain ⟨Fx, rx⟩ := J.top hg1
      obtain ⟨p, xs, rfl, h1, _⟩ := rx.dct1 J.ex hk
      cases t
      · exact ⟨p, rfl, .inl ⟨_, (h1 : Rd _ _ (.dK _))⟩⟩
      · exact ⟨p, rfl, .inr ⟨_, (h1 : Rd _ _ (.dT _))⟩⟩
    obtain ⟨p, rfl, hp⟩ := hx1
    refine ⟨p, rfl, hp, G0, ρ, (V.ref p, a1) :: ws, a2, I1, hb, fun y H2 I2 => ?_⟩
    obtain ⟨G, F1, F2, J⟩ := I2
    obtain ⟨Fy, ry⟩ := Si.top (ws := (V.ref p, a1) :: ws) J hg2
    obtain ⟨F4, _, J2⟩ := Si.drop (ws := (V.ref p, a1) :: ws) J
    obtain ⟨Fx, rx⟩ := Si.top (ws := ws) J2 hg1
    obtain ⟨F5, _, J3⟩ := Si.drop (ws := ws) J2
    obtain ⟨p', xs, ep, h1, h2, h3⟩ := rx.dct1 J3.ex hk
    cases ep
    refine ⟨_, dget_rep J3.ex h1 h2 hks ry, ?_⟩
    cases hd : valD kvs ks with
    | none =>
      rw [hd] at q
      rw [valD_none h3 hd]
      exact q _ _ (J3.pushF (d := .non) rfl).SI
    | some d =>
      rw [hd] at q
      obtain ⟨w, hw, rw'⟩ := valD_some h3 hd
      rw [hw]
      exact q _ _ (J3.pushF rw').SI
  · cases hw
end
end Pv
set_option Elab.async false
set_option linter.all false
set_option maxRecDepth 100000
/-! P24: x[i] op= e on own lists; a, b = x.pop() -/
namespace Pv
open PySem PySem.Spec PyProof.Rows L2
section
variable {X : Cx} {K : PySem.W.Frag} {G0 G G1 G' H H' : Hp} {σ : L2.St} {ρ : Env} {ws : List (V × Arg)} {F F1 F2 : List Addr} {e a b c tg : Expr} {es : List Expr} {pos : Pos} {A B C : Fe}
theorem get_listR : PGet X (rIxL X.K) := by
  intro pins s σ H x y v u Q I rx ry h
  obtain ⟨p, xs, i, z, rfl, rfl, hq, he, q⟩ := h
  cases rx
  obtain ⟨t, rfl⟩ := ry
  obtain ⟨its, r, pl, hz⟩ := I.list hq
  obtain ⟨j, h1, h2, h3, h4, h5⟩ := atI_get he
  obtain ⟨w, ew, rw'⟩ := r.get h2
  have hl := r.length
  have hn := line63
  have fin : EP X pins σ Q w s := ⟨z, H, I, rw', q⟩
  by_cases h0 : 0 ≤ i
  · have hj : i.toNat = j := by
      rw [seqIndex_of h0 h5] at h1
      exact Option.some.inj h1
    exact wpAny_getItem_list pl.isList h0 (by omega) (by rw [hj]; simpa using ew) fin
  · have hj : (i + (its.toArray.size : Int)).toNat = j := by
      rw [seqIndex_neg (by omega) h4] at h1
      rw [List.size_toArray, ← hl]
      exact Option.some.inj h1
    exact wpAny_getItem_list_neg pl.isList (by omega) (by rw [List.size_toArray] <;> omega) (by omega) (by rw [hj]; simpa using ew) fin
/-- x[j] op= e, x in slot i a list of frozen items, the item and e whole numbers -/
def sAugIx (i : Nat) (g : Int → Int → Int) (B A : Fe) : Fs := fun ρ => ((ρ[i]?).join).bind fun w => match w with
  | (1, .lst ds) => (val B ρ).bind fun u => match u.2 with
    | .int n => (val A ρ).bind fun v => match atI ds n, v.2 with
      | some (.int o), .int m => (setAt ds n (.int (g o m))).map fun ds' => (.nx, ρ.set i (some (1, .lst ds')))
      | _, _ => none
    | _ => none
  | _ => none
theorem s_augIx {i : Nat} {g : Int → Int → Int} {op : Operator} {x : Str} {p tpos : Pos} (hp : PIp X op (ipI g)) (he : OkE X e A) (hb : OkE X b B) (hN : X.N[i]? = some x := by rfl) (hv : Vis X.env.scope x := by first | exact Or.inl rfl | exact Or.inr (Or.inl rfl) | exact Or.inr (Or.inr rfl)) (hd : (x == ("__debug__" : Str)) = false := by decide) (hcd : (x == ("__classdict__" : Str)) = false := by decide)
    (has : ∀ ov iv new, augStore b ov iv new = (do holding [new, ov, iv] (setItem ov iv new); release [new, ov, iv] []; pure Flow.next) := by intros; rfl) :
    OkS X (.AugAssign (.Subscript (.Name x p) b tpos) op e pos) (sAugIx i g B A) := PS.imp (ps_augS (pe_var hN hv hd hcd) hb get_listR he hp set_list has) fun D σ H ⟨G0, ρ, fl, ρ', I, hf, post⟩ => by
  obtain ⟨w, hw, hf⟩ := Option.bind_eq_some_iff.mp hf
  split at hf
  · rename_i ds
    obtain ⟨u, hu, hf⟩ := Option.bind_eq_some_iff.mp hf
    obtain ⟨l, c⟩ := u
    cases c <;> first | (cases hf; done) | skip
    rename_i n
    obtain ⟨v, hv', hf⟩ := Option.bind_eq_some_iff.mp hf
    obtain ⟨l2, c2⟩ := v
    split at hf
    · rename_i o m hat e2
      simp only at e2
      obtain ⟨ds', hds, hf⟩ := Option.map_eq_some_iff.mp hf
      cases hf
      obtain ⟨j, hj, rfl⟩ := Option.map_eq_some_iff.mp hds
      obtain ⟨a2, ha2, hg2⟩ := val_some hu
      obtain ⟨a3, ha3, hg3⟩ := val_some hv'
      have hρ := join_some hw
      have hx : ∃ p, σ[i]? = some (some (.ref p)) := by
        obtain ⟨G, F1, F2, J⟩ := I
        obtain ⟨v, Fi, h1, h2, _⟩ := J.sl.at hρ
        obtain ⟨p, xs, rfl, h3, _⟩ := RO.lstN J.ex h2
        exact ⟨p, h1⟩
      obtain ⟨p, hp'⟩ := hx
      refine ⟨.ref p, hp', G0, ρ, [], a2, I, ha2, fun z H2 I2 => ?_⟩
      obtain ⟨G, F1, F2, J⟩ := I2
      obtain ⟨Fz, rz⟩ := J.top hg2
      obtain rfl := RO.int rz
      obtain ⟨F3, _, J1⟩ := J.drop
      obtain ⟨v, Fa, Fi, Fb, e1, h1, h2, h3⟩ := J1.slot hρ
      rw [hp'] at h1
      cases h1
      obtain ⟨p', xs, F', q0, h4, rfl, h5⟩ := h2
      cases q0
      obtain ⟨h6, h7⟩ := ROs.to_F h5
      obtain ⟨y, hy, ry⟩ := atI_rep h6 hat
      have ry : y = .int o := ry
      subst ry
      refine ⟨p, xs, n, _, rfl, rfl, SqL.of h4, hy, G0, ρ, [], a3, J1.SI, ha3, fun z H3 I3 => ?_⟩
      obtain ⟨G3, F13, F23, J3⟩ := I3
      obtain ⟨Fz3, rz3⟩ := J3.top hg3
      rw [e2] at rz3
      obtain rfl := RO.int rz3
      obtain ⟨F33, _, J4⟩ := J3.drop
      refine ⟨o, m, rfl, rfl, ?_⟩
      obtain ⟨v, Fa, Fi, Fb, e1, h1, h2, h3⟩ := J4.slot hρ
      rw [hp'] at h1
      cases h1
      obtain ⟨p', xs, F', q0, h4, rfl, h5⟩ := h2
      cases q0
      subst e1
      obtain ⟨h6, h7⟩ := ROs.to_F h5
      subst h7
      refine ⟨p, xs, n, j, rfl, rfl, h4, by rw [h6.len]; exact hj, post _ _ ?_⟩
      exact SI.upd (w := (1, .lst ds)) (F'' := []) J4 trivial h3 List.nodup_nil (fun b hb => by cases hb) ⟨p, xs.set j (.int (g o m)), [], rfl, upd_same, rfl, ROs.of_F (RepFs.set (x := .int (g o m)) (y := .int (g o m)) rfl j h6)⟩
    · cases hf
  · cases hf
/-- t = x.pop(), t a tuple of names -/
def sPopT (i : Nat) (t : Tg) : Fs := fun ρ => match (ρ[i]?).join with
  | some (1, .lst ds) => (ds[ds.length - 1]?).bind fun d => (bindT t (0, d) (ρ.set i (some (1, .lst ds.dropLast)))).map fun ρ' => (.nx, ρ')
  | _ => none
theorem s_popT {i : Nat} {t : Tg} {x : Str} {p apos cpos : Pos} (hg : OkG X tg t) (hi : X.N[i]? = some x := by rfl) (hv : Vis X.env.scope x := by first | exact Or.inl rfl | exact Or.inr (Or.inl rfl) | exact Or.inr (Or.inr rfl)) (hd : (x == ("__debug__" : Str)) = false := by decide) (hcd : (x == ("__classdict__" : Str)) = false := by decide)
    (hline : (apos.endLine == cpos.line) = true := by rfl) (hs : swapsWithSole [tg] (.Call (.Attribute (.Name x p) "pop" apos) [] [] cpos) pos.line X.env = pure false := by rfl) (hw : swappedStores [tg] (.Call (.Attribute (.Name x p) "pop" apos) [] [] cpos) X.env = pure none := by rfl)
    (h1 : (assignEach [tg] X.env).map (·.2) = [assign tg X.env] := by rfl) : OkS X (.Assign [tg] (.Call (.Attribute (.Name x p) "pop" apos) [] [] cpos) pos) (sPopT i t) :=
  PS.imp (ps_asg (pe_bm0 PySem.F.plainAttrs_list PySem.F.slot_list_pop PySem.F.type_list_pop mt_pop (pe_var hi hv hd hcd) (by rfl) hline) hg hs hw h1) fun D σ H ⟨G0, ρ, fl, ρ', I, hf, post⟩ => by
  unfold sPopT at hf
  split at hf
  · rename_i ds hw
    obtain ⟨d, hd, hf1⟩ := Option.bind_eq_some_iff.mp hf
    clear hf
    obtain ⟨ρ1, hp, hf2⟩ := Option.map_eq_some_iff.mp hf1
    cases hf2
    obtain ⟨p, xs, y, h1, h2, h3, G, F1, F2, J, ry⟩ := pop_core I (join_some hw) hd
    refine ⟨.ref p, h1, .inl ⟨rfl, xs, SqL.of h2⟩, p, xs, y, rfl, rfl, h2, h3, ?_⟩
    exact ⟨G0, _, [], 0, d, _, rfl, (J.pushF ry).SI, hp, fun σ' _ I' => post σ' _ I'⟩
  · cases hf
end
end Pv
set_option Elab.async false
set_option linter.all false
set_option maxRecDepth 100000
/-! P25: {k: v for ..} -/
namespace Pv
open PySem PySem.Spec PyProof.Rows L2
section
variable {X : Cx} {K : PySem.W.Frag} {G0 G G1 G' H H' : Hp} {σ : L2.St} {ρ : Env} {ws : List (V × Arg)} {F F1 F2 : List Addr} {e a b c tg : Expr} {es : List Expr} {pos : Pos} {A B C : Fe}
theorem Si.topUpd {p : Addr} {o : HO} {k : Nat} {d d' : D} (J : Si K G0 σ ρ ((.ref p, .v k d) :: ws) H G F1 F2) (ho : isOwn o) (hr : ∀ Fl, RO K G H k d (.ref p) Fl → Fl = [p]) (hn : RO K G (upd H p o) k d' (.ref p) [p]) :
    Pv.SI K G0 σ ρ ((.ref p, .v k d') :: ws) (upd H p o) := by
  obtain ⟨Fl, Fw, e2, r, hw⟩ := J.wv
  obtain rfl := hr Fl r
  subst e2
  have nd := J.nd
  have fr := J.fr
  simp only [List.nodup_append, List.mem_append, List.nodup_cons, List.mem_cons, List.cons_append, List.nil_append] at nd
  obtain ⟨n1, ⟨n2, n3⟩, n4⟩ := nd
  have ne : ∀ b, b ∈ F1 ∨ b ∈ Fw → (upd H p o) b = H b := fun b hb => upd_ne fun z => by
    subst z
    rcases hb with hb | hb
    · exact n4 b hb b (.inl rfl) rfl
    · exact n2 hb
  have hp : G p = none := fr p (by simp)
  refine ⟨G, F1, [p] ++ Fw, J.ex0, fun b u q => ?_, RSl.mono (Same.refl _) _ _ _ (fun b hb => ne b (.inl hb)) J.sl, ⟨[p], Fw, rfl, hn, RWs.mono (Same.refl _) _ _ (fun b hb => ne b (.inr hb)) hw⟩, J.nd, fr, fun b u q1 q2 => ?_, J.ln⟩
  · rw [upd_ne (ne_of_none q hp)]; exact J.ex b u q
  · by_cases hb : b = p
    · subst hb; rw [upd_same] at q1; cases q1; exact absurd ho q2
    · rw [upd_ne hb] at q1; exact J.tu b u q1 q2
theorem Si.addPair {p : Addr} {k l : Nat} {acc : List (List Key × D)} {x u : D} {κ : Key} {y z : V} (hκ : keyK u = some κ) (I : Si K G0 σ ρ ((z, .v k x) :: (y, .v l u) :: (.ref p, .v 1 (.dct false acc)) :: ws) H G F1 F2) :
    ∃ kvs, y = kV κ ∧ H p = some (.dK kvs) ∧ kvs.length = acc.length ∧ Pv.SI K G0 σ ρ ((.ref p, .v 1 (.dct false (putD acc [κ] x))) :: ws) (upd H p (.dK (putK kvs κ z))) := by
  obtain ⟨G', F3, J1, e1, rz⟩ := I.freeze
  obtain ⟨Fy, ry⟩ := Si.top (ws := (V.ref p, .v 1 (.dct false acc)) :: ws) J1 (w := (l, u)) rfl
  obtain rfl := keyK_rep hκ ry
  obtain ⟨F4, _, J2⟩ := Si.drop (ws := (V.ref p, .v 1 (.dct false acc)) :: ws) J1
  obtain ⟨Fx, rx⟩ := Si.top (ws := ws) J2 (w := (1, .dct false acc)) rfl
  obtain ⟨p', xs, F', q0, h4, hok, rfl, h5⟩ := rx
  cases q0
  obtain ⟨h6, h7⟩ := ROk.to_F h5
  subst h7
  have hk : keyD false (kD κ) = some [κ] := by cases κ <;> rfl
  refine ⟨xs.map fun (q : List Key × V) => (q.1.headD (.inl 0), q.2), rfl, h4, by rw [List.length_map]; exact h6.len, ?_⟩
  rw [← put_head (hok rfl)]
  refine Si.topUpd (o := hoD false (putK xs [κ] z)) J2 (isOwn_hoD false _) (fun Fl r => ?_) ⟨p, _, [], rfl, upd_same, put_ok hk hok, rfl, ROk.of_F (put_rep h6 rz)⟩
  obtain ⟨p', xs', F', q0, h4', hok', rfl, h5'⟩ := r
  cases q0
  obtain ⟨_, h7'⟩ := ROk.to_F h5'
  rw [h7']
/-- what {a: b for t in ds if T} gives -/
def compD (t : Tg) (T : Fb) (A B : Fe) (ρ : Env) : List D → List (List Key × D) → Option (List (List Key × D))
  | [], acc => some acc
  | d :: ds, acc => (bindT t (0, d) ρ).bind fun ρ1 => (T ρ1).bind fun c => if c = true then (A ρ1).bind fun a => match a with
      | .v _ u => (keyK u).bind fun κ => (B ρ1).bind fun b => match b with
        | .v _ x => compD t T A B ρ ds (putD acc [κ] x)
        | .r _ => none
      | .r _ => none
    else compD t T A B ρ ds acc
def pDc (it : Fit) (t : Tg) (vs : List Nat) (T : Fb) (A B : Fe) : Fe := fun ρ => if (vs.all fun v => lvl0 ρ[v]?) = true then (it ρ).bind fun ds => if ds.length ≤ big then (compD t T A B (wipeE ρ vs) ds []).map fun r => .v 1 (.dct false r) else none else none
theorem putD_len1 (kvs : List (List Key × D)) (k : List Key) (d : D) : (putD kvs k d).length ≤ kvs.length + 1 := by
  unfold putD
  split
  · rw [List.length_map]; omega
  · rw [List.length_append]; exact Nat.le_refl _
theorem dc_imp {it : Fit} {t : Tg} {vs : List Nat} {T : Fb} (hsub : ∀ i ∈ slotsT t, i ∈ vs) (σ : L2.St) (H : Hp) (Q : VK) (h : tE K (pDc it t vs T A B) σ H Q) : tDc (tIc K it) (tG K t) (tT K T) (tE K A) (tE K B) vs σ H Q := by
  obtain ⟨G0, ρ, ws, a, I, hf, q⟩ := h
  unfold pDc at hf
  split at hf
  · rename_i hv
    obtain ⟨ds, hds, hf⟩ := Option.bind_eq_some_iff.mp hf
    split at hf
    · rename_i hbig
      obtain ⟨out, ho, rfl⟩ := Option.map_eq_some_iff.mp hf
      have hv' : ∀ v ∈ vs, plain0 ρ[v]? := fun v hm => lvl0_plain (List.all_eq_true.mp hv v hm)
      refine ⟨G0, ρ, ws, ds, I, hds, fun J H1 G1 e01 I1 items Dl hD => ?_⟩
      refine ⟨fun i m H => m = ds.length - i ∧ i ≤ ds.length ∧ ∃ acc, SI K G1 σ ρ ((.ref Dl, .v 1 (.dct false acc)) :: ws) H ∧ compD t T A B (wipeE ρ vs) (ds.drop i) acc = some out ∧ acc.length ≤ i, ⟨ds.length, rfl, Nat.zero_le _, [], ?_, ho, Nat.le_refl _⟩, ?_⟩
      · obtain ⟨G, F1, F2, S⟩ := I1
        have g := Grow.newO (o := .dK []) S.ex hD trivial
        exact (S.push (k := 1) (d := .dct false []) g ⟨Dl, [], [], rfl, upd_same, (fun _ p h => by cases h), rfl, rfl, rfl⟩).SI
      · rintro i m H2 ⟨rfl, hi, acc, I2, hc, hacc⟩
        by_cases hlt : i < ds.length
        · obtain ⟨G, F1, F2, S⟩ := I2
          refine .inr ⟨items.goes i G H2 hlt ⟨_, _, _, S⟩, ?_⟩
          rw [List.drop_eq_getElem_cons hlt] at hc
          obtain ⟨ρ1, hb1, hc⟩ := Option.bind_eq_some_iff.mp hc
          obtain ⟨b, hT, hc⟩ := Option.bind_eq_some_iff.mp hc
          refine ⟨fun H => ∃ acc, SI K G1 σ ρ ((.ref Dl, .v 1 (.dct false acc)) :: ws) H ∧ compD t T A B (wipeE ρ vs) (ds.drop (i + 1)) acc = some out ∧ acc.length ≤ i + 1, fun H' ⟨acc, h1, h2, h4⟩ => ⟨ds.length - (i + 1), by omega, rfl, hlt, acc, h1, h2, h4⟩, fun x H' y => ?_⟩
          obtain ⟨G', d, gr, hd, rd⟩ := items.yields i G H2 x H' hlt ⟨_, _, _, S⟩ y
          have ed : d = ds[i] := by rw [List.getElem?_eq_getElem hlt] at hd; exact (Option.some.inj hd).symm
          subst ed
          have S3 := S.grow gr
          have Sw : Si K G' (wipe σ vs) (wipeE ρ vs) ((.ref Dl, .v 1 (.dct false acc)) :: strip ws) H' G' F1 F2 :=
            ⟨Same.refl _, S3.ex, RSl.wiped σ ρ F1 S3.sl S3.ln hv', by exact RWs.strip (ws := (.ref Dl, .v 1 (.dct false acc)) :: ws) S3.wv, S3.nd, S3.fr, S3.tu, by rw [wipe_length, wipeE_len]; exact S3.ln⟩
          obtain ⟨b1, b2, b3⟩ := bindT_but t (0, ds[i]) _ ρ1 hb1
          have hl1 : ρ1.length = ρ.length := by rw [b1, wipeE_len]
          have p1 : ∀ k ∈ vs, plain0 ρ[k]? ∧ plain0 ρ1[k]? := fun k hk => ⟨hv' k hk, b3 rfl k (wipeE_in hk)⟩
          refine ⟨G', wipeE ρ vs, (.ref Dl, .v 1 (.dct false acc)) :: strip ws, 0, ds[i], ρ1, noRef_strip ws, (Sw.pushF rd).SI, hb1, fun σ' but I' => ⟨wipe_but but hsub, G', ρ1, _, b, I', hT, fun H3 I3 => ?_⟩⟩
          have hl2 : σ'.length = σ.length := by rw [but.1, wipe_length]
          have p2 : ∀ k, k ∉ vs → ρ1[k]? = ρ[k]? ∧ σ'[k]? = σ[k]? := fun k hk => ⟨by rw [b2 k (fun z => hk (hsub k z)), wipeE_out hk], by rw [but.2 k (fun z => hk (hsub k z)), wipe_out hk]⟩
          cases b with
          | false =>
            rw [if_neg Bool.false_ne_true] at hc
            refine iteF ?_
            obtain ⟨G5, F5, F6, S5⟩ := I3
            have S6 := Si.unwipe (pre := []) (ws := (.ref Dl, .v 1 (.dct false acc)) :: ws) S3 S5 rfl hl1 hl2 p1 p2
            exact ⟨acc, S6.SI, hc, Nat.le_succ_of_le hacc⟩
          | true =>
            rw [if_pos rfl] at hc
            refine iteT ?_
            obtain ⟨a, hA, hc⟩ := Option.bind_eq_some_iff.mp hc
            cases a with
            | r n => cases hc
            | v l u =>
              obtain ⟨κ, hκ, hc⟩ := Option.bind_eq_some_iff.mp hc
              obtain ⟨b, hB, hc⟩ := Option.bind_eq_some_iff.mp hc
              cases b with
              | r n => cases hc
              | v k xd =>
                simp only at hc
                refine ⟨G', ρ1, _, _, I3, hA, fun y4 H4 I4 => ⟨G', ρ1, _, _, I4, hB, fun z5 H5 I5 => ?_⟩⟩
                obtain ⟨G5, F5, F6, S5⟩ := I5
                have S6 := Si.unwipe (pre := [(z5, .v k xd), (y4, .v l u)]) (ws := (.ref Dl, .v 1 (.dct false acc)) :: ws) S3 S5 rfl hl1 hl2 p1 p2
                obtain ⟨kvs, hy, hx1, hx2, hx3⟩ := Si.addPair hκ S6
                refine ⟨kvs, κ, hy, hx1, ?_, putD acc [κ] xd, hx3, hc, Nat.le_trans (putD_len1 _ _ _) (Nat.succ_le_succ hacc)⟩
                rw [hx2]
                exact big_lt (by omega)
        · have ei : i = ds.length := by omega
          subst ei
          rw [List.drop_length] at hc
          cases hc
          obtain ⟨G, F1, F2, S⟩ := I2
          exact .inl ⟨items.stops G H2 ⟨_, _, _, S⟩, q _ H2 (S.SI.base e01)⟩
    · cases hf
  · cases hf
theorem e_dc {it : Fit} {t : Tg} {kx vx tg iter : Expr} {ifs : List Expr} {scope : Scope} {own : List (Str × Nat)} {T : Fb} (hc : X.calm = true) (hN : X.N.Nodup) (hi : OkIc X tg iter it) (ok : BlkOk X.N X.env.scope scope own)
    (hg : ∀ (s : Shared) (H : Hp) (C : Addr) (cl : List (Str × Addr)) (fp : List Addr), OkG (X.blk s H scope (compEnvC scope cl C X.env) fp) tg t) (ht : ∀ (s : Shared) (H : Hp) (C : Addr) (cl : List (Str × Addr)) (fp : List Addr), OkTs (X.blk s H scope (compEnvC scope cl C X.env) fp) ifs T)
    (hk : ∀ (s : Shared) (H : Hp) (C : Addr) (cl : List (Str × Addr)) (fp : List Addr), OkE (X.blk s H scope (compEnvC scope cl C X.env) fp) kx A)
    (he : ∀ (s : Shared) (H : Hp) (C : Addr) (cl : List (Str × Addr)) (fp : List Addr), OkE (X.blk s H scope (compEnvC scope cl C X.env) fp) vx B) (hsub : ∀ i ∈ slotsT t, i ∈ own.map (·.2) := by decide) (hs : ∀ x, foldedSetIterable iter X.env x = pure x := by intro _; rfl) :
    OkE X (.DictComp kx vx [⟨tg, iter, ifs, 0⟩] scope pos) (pDc it t (own.map (·.2)) T A B) := PE.imp (pe_dc (g := tG X.K t) (tt := tT X.K T) (tk := tE X.K A) (tv := tE X.K B) hc hN hi ok hg ht hk he hs) (dc_imp hsub)
end
end Pv
set_option Elab.async false
set_option linter.all false
set_option maxRecDepth 100000
/-! P26: list(zip(a, b)) -/
namespace Pv
open PySem PySem.Spec PyProof.Rows L2
section
variable {prog : Program} {w : World} {A : Around} {E : Value → Shared → Prop} {s : Shared} {z TI TO i1 i2 T : Addr} {fp1 fp2 : List Addr} {n1 n2 i : Nat} {P1 P2 : Nat → Value → Prop} {St1 St2 : Nat → Heap → Prop} {f : Bool} {oT : Obj}
theorem zipD2_item_held {Q : Value → Shared → Prop} (S : ZipSep2 z TI TO i1 i2 fp1 fp2) (D1 : Draws prog w A i1 fp1 n1 P1 St1) (D2 : Draws prog w A i2 fp2 n2 P2 St2)
    (hz : IsZipHeld s.heap z TI TO T f) (hT : s.heap.get? T = some oT) (hTI : IsTupOf2 s.heap TI (.ref i1) (.ref i2)) (st1 : St1 i s.heap) (st2 : St2 i s.heap) (hlt1 : i < n1) (hlt2 : i < n2)
    (hQ : ∀ x1 x2 h' tk, P1 i x1 → P2 i x2 → IsZipHeld h' z TI TO T true → St1 (i + 1) h' → St2 (i + 1) h' → IsTupOf2 h' s.heap.objs.size x1 x2 → h'.objs.size = s.heap.objs.size + 1 →
      (∀ c o, c ≠ z → c ≠ i1 → c ≠ i2 → s.heap.get? c = some o → h'.get? c = some o) → Q (.ref s.heap.objs.size) { s with heap := h', toks := tk }) :
    wpAny (model prog w) A (Builtin.«zip.__next__» ⟨[.ref z], []⟩) (fun fin s' => ∃ v, fin = .done (.ret v) ∧ Q v s') E s := by
  obtain ⟨hp, g, d, tk0, os⟩ := s
  show wpAny _ _ (field (.ref z) 2 >>= _) _ _ _
  refine wpAny_bind (wpAny_field hz rfl (x := .bool false) rfl ?_)
  show wpAny _ _ (field (.ref z) 3 >>= _) _ _ _
  refine wpAny_bind (wpAny_field hz rfl (x := .ref TI) rfl ?_)
  refine wpAny_bind (wpAny_seqItems hTI rfl ?_)
  show wpAny _ _ (Builtin.SmallTypes.ownedTupleIsFree (.ref z) >>= _) _ _ _
  refine wpAny_bind (wpAny_tupleHeld_zip hz hT fun h₁ hz₁ hs₁ => ?_)
  replace hs₁ : Heap.SameBut z hp h₁ := hs₁
  simp only [Bool.false_eq_true, if_false]
  refine wpAny_bind ?_
  rw [← Array.forIn_toList]
  simp only [List.forIn_cons, List.forIn_nil]
  refine wpAny_bind (wpAny_bind (wpAny_holding ?_))
  show wpAny _ _ (Builtin.SmallTypes.nextOf (.ref i1) >>= _) _ _ ⟨h₁, g, d, tk0, os⟩
  refine wpAny_bind (D1.item i _ _ _ hlt1 (D1.over st1 hs₁ S.zf1) fun x1 p1 tk1 hx1 sn1 hp1 => wpAny_pure ?_)
  replace hp1 : Heap.SameBut i1 h₁ p1 := hp1
  refine wpAny_pure ?_
  refine wpAny_bind (wpAny_bind (wpAny_holding ?_))
  show wpAny _ _ (Builtin.SmallTypes.nextOf (.ref i2) >>= _) _ _ ⟨p1, g, d, tk1, os⟩
  refine wpAny_bind (D2.item i _ _ _ hlt2 (D2.over (D2.over st2 hs₁ S.zf2) hp1 S.sep1_2) fun x2 p2 tk2 hx2 sn2 hp2 => wpAny_pure ?_)
  replace hp2 : Heap.SameBut i2 p1 p2 := hp2
  refine wpAny_pure (wpAny_pure ?_)
  show wpAny _ _ (newTuple [x1, x2] >>= _) _ _ ⟨p2, g, d, tk2, os⟩
  refine wpAny_bind (wpAny_newTuple ?_)
  have hsz : p2.objs.size = hp.objs.size := by rw [hp2.1, hp1.1, hs₁.1]
  have hz₃ : IsZipHeld p2 z TI TO T true := hp2.extBut _ _ S.zi2 (hp1.extBut _ _ S.zi1 hz₁)
  have hk : ∀ c o, c ≠ z → c ≠ i1 → c ≠ i2 → hp.get? c = some o → p2.get? c = some o := fun c o c1 c2 c3 e => hp2.extBut _ _ c3 (hp1.extBut _ _ c2 (hs₁.extBut _ _ c1 e))
  have hj1 : St1 (i + 1) p2 := D1.over sn1 hp2 S.sep2_1
  refine wpAny_pure ⟨_, rfl, ?_⟩
  show Q (.ref p2.objs.size) _
  have hp' : IsTupOf2 (p2.push { cls := .type "tuple", data := .seq #[x1, x2] }) p2.objs.size x1 x2 := Heap.get?_push_size _ rfl
  have hz4 : (p2.push { cls := .type "tuple", data := .seq #[x1, x2] }).objs.size = p2.objs.size + 1 := Heap.size_push ..
  rw [hsz] at hp' hz4 ⊢
  exact hQ x1 x2 _ tk2 hx1 hx2 (Heap.get?_push_of_some _ hz₃) (D1.frame _ _ _ hj1 fun b _ o e => Heap.get?_push_of_some _ e) (D2.frame _ _ _ sn2 fun b _ o e => Heap.get?_push_of_some _ e) hp' hz4 fun c o c1 c2 c3 e => Heap.get?_push_of_some _ (hk c o c1 c2 c3 e)
theorem zipD2_end_held {Q : Fin → Shared → Prop} (S : ZipSep2 z TI TO i1 i2 fp1 fp2) (D1 : Draws prog w A i1 fp1 n1 P1 St1) (D2 : Draws prog w A i2 fp2 n2 P2 St2)
    (hz : IsZipHeld s.heap z TI TO T f) (hT : s.heap.get? T = some oT) (hTI : IsTupOf2 s.heap TI (.ref i1) (.ref i2)) (st1 : St1 i s.heap) (st2 : St2 i s.heap) (hle1 : i ≤ n1) (hle2 : i ≤ n2) (hend : i = n1 ∨ i = n2)
    (hE : ∀ h' tk e, (∀ c o, c ≠ z → c ≠ i1 → c ≠ i2 → s.heap.get? c = some o → h'.get? c = some o) → (∃ o, h'.get? e = some o ∧ o.cls = .type "StopIteration") → E (.ref e) { s with heap := h', toks := tk }) :
    wpAny (model prog w) A (Builtin.«zip.__next__» ⟨[.ref z], []⟩) Q E s := by
  obtain ⟨hp, g, d, tk0, os⟩ := s
  show wpAny _ _ (field (.ref z) 2 >>= _) _ _ _
  refine wpAny_bind (wpAny_field hz rfl (x := .bool false) rfl ?_)
  show wpAny _ _ (field (.ref z) 3 >>= _) _ _ _
  refine wpAny_bind (wpAny_field hz rfl (x := .ref TI) rfl ?_)
  refine wpAny_bind (wpAny_seqItems hTI rfl ?_)
  show wpAny _ _ (Builtin.SmallTypes.ownedTupleIsFree (.ref z) >>= _) _ _ _
  refine wpAny_bind (wpAny_tupleHeld_zip hz hT fun h₁ hz₁ hs₁ => ?_)
  replace hs₁ : Heap.SameBut z hp h₁ := hs₁
  simp only [Bool.false_eq_true, if_false]
  refine wpAny_bind ?_
  rw [← Array.forIn_toList]
  simp only [List.forIn_cons, List.forIn_nil]
  refine wpAny_bind (wpAny_bind (wpAny_holding ?_))
  show wpAny _ _ (Builtin.SmallTypes.nextOf (.ref i1) >>= _) _ _ ⟨h₁, g, d, tk0, os⟩
  by_cases hlt1 : i < n1
  · refine wpAny_bind (D1.item i _ _ _ hlt1 (D1.over st1 hs₁ S.zf1) fun x1 p1 tk1 hx1 sn1 hp1 => wpAny_pure ?_)
    replace hp1 : Heap.SameBut i1 h₁ p1 := hp1
    refine wpAny_pure ?_
    have hi2 : i = n2 := by omega
    refine wpAny_bind (wpAny_bind (wpAny_holding ?_))
    show wpAny _ _ (Builtin.SmallTypes.nextOf (.ref i2) >>= _) _ _ ⟨p1, g, d, tk1, os⟩
    refine wpAny_bind (D2.done ⟨p1, g, d, tk1, os⟩ _ _ (by rw [← hi2]; exact D2.over (D2.over st2 hs₁ S.zf2) hp1 S.sep1_2) fun q e hq he => ?_)
    replace hq : Heap.ExtBut i2 p1 q := hq
    exact hE q tk1 e (fun c o c1 c2 c3 x => hq _ _ c3 (hp1.extBut _ _ c2 (hs₁.extBut _ _ c1 x))) he
  · have hi1 : i = n1 := by omega
    refine wpAny_bind (D1.done ⟨h₁, g, d, tk0, os⟩ _ _ (by rw [← hi1]; exact D1.over st1 hs₁ S.zf1) fun q e hq he => ?_)
    replace hq : Heap.ExtBut i1 h₁ q := hq
    exact hE q tk0 e (fun c o c1 c2 _ x => hq _ _ c2 (hs₁.extBut _ _ c1 x)) he
theorem pyNext_zip_item_held {Q : Option Value → Shared → Prop} (S : ZipSep2 z TI TO i1 i2 fp1 fp2) (D1 : Draws prog w A.in1 i1 fp1 n1 P1 St1) (D2 : Draws prog w A.in1 i2 fp2 n2 P2 St2)
    (hz : IsZipHeld s.heap z TI TO T f) (hT : s.heap.get? T = some oT) (hTI : IsTupOf2 s.heap TI (.ref i1) (.ref i2)) (st1 : St1 i s.heap) (st2 : St2 i s.heap) (hlt1 : i < n1) (hlt2 : i < n2)
    (hQ : ∀ x1 x2 h' tk, P1 i x1 → P2 i x2 → IsZipHeld h' z TI TO T true → St1 (i + 1) h' → St2 (i + 1) h' → IsTupOf2 h' s.heap.objs.size x1 x2 → h'.objs.size = s.heap.objs.size + 1 →
      (∀ c o, c ≠ z → c ≠ i1 → c ≠ i2 → s.heap.get? c = some o → h'.get? c = some o) → Q (some (.ref s.heap.objs.size)) { s with heap := h', toks := tk }) :
    wpAny (model prog w) A (pyNext (.ref z)) Q E s := by
  have hTy : s.TypeIs (.ref z) "zip" := ⟨_, hz, rfl⟩
  unfold pyNext
  exact wpAny_bind (wpAny_attempt (wpAny_callSpecial?_slot (name := Str.ofString "__next__") hTy PySem.F.slot_zip_next
    (wpAny_call_entry PySem.F.slot_zip_next hTy PySem.F.entry_zip_next
      (zipD2_item_held S D1 D2 hz hT hTI st1 st2 hlt1 hlt2 fun x1 x2 h' tk a1 a2 a3 a4 a5 a6 a7 a8 => wpAny_pure (hQ x1 x2 h' tk a1 a2 a3 a4 a5 a6 a7 a8)) (PySem.F.args_zip_next_1 _))))
theorem pyNext_zip_end_held {Q : Option Value → Shared → Prop} (S : ZipSep2 z TI TO i1 i2 fp1 fp2) (D1 : Draws prog w A.in1 i1 fp1 n1 P1 St1) (D2 : Draws prog w A.in1 i2 fp2 n2 P2 St2)
    (hz : IsZipHeld s.heap z TI TO T f) (hT : s.heap.get? T = some oT) (hTI : IsTupOf2 s.heap TI (.ref i1) (.ref i2)) (st1 : St1 i s.heap) (st2 : St2 i s.heap) (hle1 : i ≤ n1) (hle2 : i ≤ n2) (hend : i = n1 ∨ i = n2)
    (hQ : ∀ h' tk, (∀ c o, c ≠ z → c ≠ i1 → c ≠ i2 → s.heap.get? c = some o → h'.get? c = some o) → Q none { s with heap := h', toks := tk }) : wpAny (model prog w) A (pyNext (.ref z)) Q E s := by
  have hTy : s.TypeIs (.ref z) "zip" := ⟨_, hz, rfl⟩
  unfold pyNext
  refine wpAny_bind (wpAny_attempt (wpAny_callSpecial?_slot (name := Str.ofString "__next__") hTy PySem.F.slot_zip_next
    (wpAny_call_entry PySem.F.slot_zip_next hTy PySem.F.entry_zip_next (zipD2_end_held S D1 D2 hz hT hTI st1 st2 hle1 hle2 hend fun h' tk e hk he => ?_) (PySem.F.args_zip_next_1 _))))
  obtain ⟨o, ho, hc⟩ := he
  refine wpAny_bind (wpAny_isInstance (T := "StopIteration") (b := true) ⟨o, ho, hc⟩ isSubtype_stop ?_)
  exact wpAny_pure (hQ _ _ hk)
/-- the zip, i items drawn, none let go -/
structure ZH (S1 S2 : Nat → Heap → Prop) (z TI TO i1 i2 : Addr) (i : Nat) (h : Heap) : Prop where
  ti : IsTupOf2 h TI (.ref i1) (.ref i2)
  s1 : S1 i h
  s2 : S2 i h
  zs : (i = 0 ∧ IsZip h z TI TO .none ∧ ∃ a1 a2, IsTupOf2 h TO a1 a2) ∨ ∃ T f oT, IsZipHeld h z TI TO T f ∧ h.get? T = some oT ∧ T ≠ z ∧ T ≠ i1 ∧ T ≠ i2 ∧ oT.cls = .type "tuple"
/-- the pairs behind addresses -/
inductive Pairs (h : Heap) : List Addr → List (Value × Value) → Prop where
  | nil : Pairs h [] []
  | cons {T : Addr} {Ts : List Addr} {p : Value × Value} {ps : List (Value × Value)} : IsTupOf2 h T p.1 p.2 → Pairs h Ts ps → Pairs h (T :: Ts) (p :: ps)
theorem Pairs.keep {h h' : Heap} : ∀ {Ts : List Addr} {ps : List (Value × Value)}, Pairs h Ts ps → (∀ T ∈ Ts, ∀ o, h.get? T = some o → h'.get? T = some o) → Pairs h' Ts ps
  | [], _, .nil, _ => .nil
  | T :: Ts, _, .cons r t, k => .cons (k T List.mem_cons_self _ r) (t.keep fun T' h' => k T' (List.mem_cons_of_mem _ h'))
theorem Pairs.snoc {h : Heap} {T : Addr} {x y : Value} (r : IsTupOf2 h T x y) : ∀ {Ts : List Addr} {ps : List (Value × Value)}, Pairs h Ts ps → Pairs h (Ts ++ [T]) (ps ++ [(x, y)])
  | [], _, .nil => .cons r .nil
  | _ :: Ts, _, .cons q t => .cons q (t.snoc r)
theorem Pairs.lt {h : Heap} : ∀ {Ts : List Addr} {ps : List (Value × Value)}, Pairs h Ts ps → ∀ T ∈ Ts, T < h.objs.size
  | _ :: _, _, .cons r t, T, hm => by
    rcases List.mem_cons.mp hm with e | hm
    · rw [e]; exact Heap.lt_size r
    · exact t.lt T hm
abbrev LstAt (h : Heap) (L : Addr) (Ts : List Addr) (c : Nat) : Prop := h.get? L = some { cls := .type "list", dict := none, data := .seq (Ts.map Value.ref).toArray c, slots := #[] }
theorem zip_next {Q : Option Value → Shared → Prop} (S : ZipSep2 z TI TO i1 i2 fp1 fp2) (D1 : Draws prog w A.in1 i1 fp1 n1 P1 St1) (D2 : Draws prog w A.in1 i2 fp2 n2 P2 St2) (hZ : ZH St1 St2 z TI TO i1 i2 i s.heap) (hlt1 : i < n1) (hlt2 : i < n2)
    (hQ : ∀ x1 x2 h' tk, P1 i x1 → P2 i x2 → ZH St1 St2 z TI TO i1 i2 (i + 1) h' → IsTupOf2 h' s.heap.objs.size x1 x2 → h'.objs.size = s.heap.objs.size + 1 →
      (∀ c o, c ≠ z → (i = 0 → c ≠ TO) → c ≠ i1 → c ≠ i2 → s.heap.get? c = some o → h'.get? c = some o) → Q (some (.ref s.heap.objs.size)) { s with heap := h', toks := tk }) :
    wpAny (model prog w) A (pyNext (.ref z)) Q E s := by
  have l1 : i1 < s.heap.objs.size := by obtain ⟨o, ho⟩ := D1.live i _ hZ.s1; exact Heap.lt_size ho
  have l2 : i2 < s.heap.objs.size := by obtain ⟨o, ho⟩ := D2.live i _ hZ.s2; exact Heap.lt_size ho
  rcases hZ.zs with ⟨rfl, hz, a1, a2, hTO⟩ | ⟨T, f, oT, hz, hT, t1, t2, t3, t4⟩
  · have lz : z < s.heap.objs.size := Heap.lt_size hz
    refine wpAny_pyNext_zipD2_item S D1 D2 hz hZ.ti hTO hZ.s1 hZ.s2 hlt1 hlt2 fun x1 x2 h' tk y1 y2 b1 b2 d1 d2 b5 b6 b7 => hQ x1 x2 h' tk y1 y2 ⟨b7 _ _ S.TIz S.TITO S.TIi1 S.TIi2 hZ.ti, d1, d2, .inr ⟨s.heap.objs.size, false, _, b1, b5, Nat.ne_of_gt lz, Nat.ne_of_gt l1, Nat.ne_of_gt l2, rfl⟩⟩ b5 b6 fun c o c1 c2 c3 c4 e => b7 c o c1 (c2 rfl) c3 c4 e
  · refine pyNext_zip_item_held S D1 D2 hz hT hZ.ti hZ.s1 hZ.s2 hlt1 hlt2 fun x1 x2 h' tk y1 y2 b1 d1 d2 b5 b6 b7 => hQ x1 x2 h' tk y1 y2 ⟨b7 _ _ S.TIz S.TIi1 S.TIi2 hZ.ti, d1, d2, .inr ⟨T, true, oT, b1, b7 _ _ t1 t2 t3 hT, t1, t2, t3, t4⟩⟩ b5 b6 fun c o c1 _ c3 c4 e => b7 c o c1 c3 c4 e
theorem zip_end {Q : Option Value → Shared → Prop} (S : ZipSep2 z TI TO i1 i2 fp1 fp2) (D1 : Draws prog w A.in1 i1 fp1 n1 P1 St1) (D2 : Draws prog w A.in1 i2 fp2 n2 P2 St2) (hZ : ZH St1 St2 z TI TO i1 i2 i s.heap) (hle1 : i ≤ n1) (hle2 : i ≤ n2) (hend : i = n1 ∨ i = n2)
    (hQ : ∀ h' tk, (∀ c o, c ≠ z → (i = 0 → c ≠ TO) → c ≠ i1 → c ≠ i2 → s.heap.get? c = some o → h'.get? c = some o) → Q none { s with heap := h', toks := tk }) :
    wpAny (model prog w) A (pyNext (.ref z)) Q E s := by
  rcases hZ.zs with ⟨rfl, hz, a1, a2, hTO⟩ | ⟨T, f, oT, hz, hT, t1, t2, t3, t4⟩
  · exact wpAny_pyNext_zipD2_end S D1 D2 hz hZ.ti hTO hZ.s1 hZ.s2 hle1 hle2 hend fun h' tk b => hQ h' tk fun c o c1 c2 c3 c4 e => b c o c1 (c2 rfl) c3 c4 e
  · exact pyNext_zip_end_held S D1 D2 hz hT hZ.ti hZ.s1 hZ.s2 hle1 hle2 hend fun h' tk b => hQ h' tk fun c o c1 _ c3 c4 e => b c o c1 c3 c4 e
theorem ZH.frame (S : ZipSep2 z TI TO i1 i2 fp1 fp2) (D1 : Draws prog w A i1 fp1 n1 P1 St1) (D2 : Draws prog w A i2 fp2 n2 P2 St2) {h h' : Heap} (hZ : ZH St1 St2 z TI TO i1 i2 i h) {L : Addr} (hL : L ∉ z :: TI :: TO :: (fp1 ++ fp2)) (hLl : ∃ o, h.get? L = some o ∧ o.cls = .type "list")
    (k : ∀ b o, b ≠ L → h.get? b = some o → h'.get? b = some o) : ZH St1 St2 z TI TO i1 i2 i h' := by
  simp only [List.mem_cons, List.mem_append, not_or] at hL
  obtain ⟨n0, n1', n2', n3, n4⟩ := hL
  refine ⟨k _ _ (Ne.symm n1') hZ.ti, D1.frame _ _ _ hZ.s1 fun b hb o e => k b o (fun q => n3 (q ▸ hb)) e, D2.frame _ _ _ hZ.s2 fun b hb o e => k b o (fun q => n4 (q ▸ hb)) e, ?_⟩
  rcases hZ.zs with ⟨e0, hz', a1, a2, hTO⟩ | ⟨T, f, oT, hz', hT', t1, t2, t3, t4⟩
  · exact .inl ⟨e0, k _ _ (Ne.symm n0) hz', a1, a2, k _ _ (Ne.symm n2') hTO⟩
  · refine .inr ⟨T, f, oT, k _ _ (Ne.symm n0) hz', k _ _ (fun q => ?_) hT', t1, t2, t3, t4⟩
    obtain ⟨o, ho, hc⟩ := hLl
    subst q
    rw [hT'] at ho
    cases ho
    rw [t4] at hc
    injection hc with hc
    exact absurd hc (by decide)
theorem zip_loop {R : Result → Shared → Prop} (S : ZipSep2 z TI TO i1 i2 fp1 fp2) (D1 : Draws prog w A.in1.in1 i1 fp1 n1 P1 St1) (D2 : Draws prog w A.in1.in1 i2 fp2 n2 P2 St2) (hn : min n1 n2 ≤ sizeLine) {L : Addr} (hL : L ∉ z :: TI :: TO :: (fp1 ++ fp2)) (res : Value) :
    ∀ (k i : Nat) (s : Shared) (Ts : List Addr) (ps : List (Value × Value)) (c : Nat), min n1 n2 - i = k → i ≤ min n1 n2 → ZH St1 St2 z TI TO i1 i2 i s.heap → LstAt s.heap L Ts c → Pairs s.heap Ts ps → Ts.length = i → Ts.Pairwise (· < ·) → (∀ T ∈ Ts, T ≠ z ∧ T ≠ i1 ∧ T ≠ i2 ∧ T ≠ L) → (∀ j p, ps[j]? = some p → P1 j p.1 ∧ P2 j p.2) →
    (∀ h' tk Ts' ps' c', LstAt h' L Ts' c' → Pairs h' Ts' ps' → Ts'.length = min n1 n2 → Ts'.Pairwise (· < ·) → (∀ T ∈ Ts', T ∈ Ts ∨ s.heap.objs.size ≤ T) → (∀ j p, ps'[j]? = some p → P1 j p.1 ∧ P2 j p.2) → (∀ b o, b ≠ z → b ≠ TO → b ≠ i1 → b ≠ i2 → b ≠ L → s.heap.get? b = some o → h'.get? b = some o) → R (.ok (.ret res)) { s with heap := h', toks := tk }) →
    codeAny (model prog w) A (.builtin "list.extend.loop" ⟨[.ref L, .ref z, res], []⟩) R s := by
  have hL' := hL
  simp only [List.mem_cons, List.mem_append, not_or] at hL'
  obtain ⟨n0, n1', n2', n3, n4⟩ := hL'
  have nL1 : L ≠ i1 := fun q => n3 (q ▸ S.mem1)
  have nL2 : L ≠ i2 := fun q => n4 (q ▸ S.mem2)
  intro k
  induction k with
  | zero =>
    intro i s Ts ps c hk hi hZ hS hP hlen hpw hTs hps hR
    refine codeAny_builtin PySem.F.entry_extend_loop ?_
    rw [Around.under_plainId PySem.F.plain_extend_loop _]
    show wpAny _ A.in1 (pyNext (.ref z) >>= _) _ _ s
    refine wpAny_bind (zip_end S D1 D2 hZ (by omega) (by omega) (by omega) fun h' tk b => ?_)
    refine wpAny_pure (hR h' tk Ts ps c (b _ _ n0 (fun _ => n2') nL1 nL2 hS) (hP.keep fun T hT o e => ?_) (by omega) hpw (fun T hT => .inl hT) hps fun b' o c1 c2 c3 c4 _ e => b _ _ c1 (fun _ => c2) c3 c4 e)
    obtain ⟨m1, m2, m3, _⟩ := hTs T hT
    exact b _ _ m1 (fun q => absurd hT (by rw [List.eq_nil_of_length_eq_zero (l := Ts) (by omega)]; exact List.not_mem_nil)) m2 m3 e
  | succ k ih =>
    intro i s Ts ps c hk hi hZ hS hP hlen hpw hTs hps hR
    have hlt : i < min n1 n2 := by omega
    have hlt1 : i < n1 := by omega
    have hlt2 : i < n2 := by omega
    refine codeAny_builtin PySem.F.entry_extend_loop ?_
    rw [Around.under_plainId PySem.F.plain_extend_loop _]
    show wpAny _ A.in1 (pyNext (.ref z) >>= _) _ _ s
    refine wpAny_bind (zip_next S D1 D2 hZ hlt1 hlt2 fun x1 x2 h' tk y1 y2 hZ' hT' hsz b => ?_)
    have hLs : L < s.heap.objs.size := Heap.lt_size hS
    have hS' : LstAt h' L Ts c := b _ _ n0 (fun _ => n2') nL1 nL2 hS
    have hP' : Pairs h' Ts ps := hP.keep fun T hT o e => by
      obtain ⟨m1, m2, m3, _⟩ := hTs T hT
      exact b _ _ m1 (fun q => absurd hT (by rw [List.eq_nil_of_length_eq_zero (l := Ts) (by omega)]; exact List.not_mem_nil)) m2 m3 e
    have lz : z < s.heap.objs.size := by
      rcases hZ.zs with ⟨_, hz, _⟩ | ⟨_, _, _, hz, _⟩ <;> exact Heap.lt_size hz
    have l1 : i1 < s.heap.objs.size := by obtain ⟨o, ho⟩ := D1.live i _ hZ.s1; exact Heap.lt_size ho
    have l2 : i2 < s.heap.objs.size := by obtain ⟨o, ho⟩ := D2.live i _ hZ.s2; exact Heap.lt_size ho
    show wpAny _ A.in1 (updateSeq L (·.push (.ref s.heap.objs.size)) >>= _) _ _ _
    refine wpAny_bind ?_
    have oth : ∀ b o, b ≠ L → h'.get? b = some o → (h'.update L (Obj.mapSeq (·.push (.ref s.heap.objs.size)))).get? b = some o := fun b o hb e => (Heap.get?_update_other _ _ (Ne.symm hb)).trans e
    have hsize : (Ts.map Value.ref).toArray.size = i := by simp [hlen]
    have hS2 : ∃ c2, LstAt (h'.update L (Obj.mapSeq (·.push (.ref s.heap.objs.size)))) L (Ts ++ [s.heap.objs.size]) c2 := by
      have e : ((Ts ++ [s.heap.objs.size]).map Value.ref).toArray = (Ts.map Value.ref).toArray.push (.ref s.heap.objs.size) := by simp
      unfold LstAt
      rw [e]
      exact ⟨_, Heap.get?_update_self _ hS' rfl⟩
    obtain ⟨c2, hS2⟩ := hS2
    refine wpAny_updateSeq hS' rfl (wpAny_pure ⟨plainId_quiet PySem.F.plain_extend_loop _, ih (i + 1) _ (Ts ++ [s.heap.objs.size]) (ps ++ [(x1, x2)]) c2 (by omega) hlt (hZ'.frame S D1 D2 hL ⟨_, hS', rfl⟩ oth) hS2 ?_ (by simp [hlen]) ?_ ?_ ?_ fun h2 tk2 Ts2 ps2 c3 a1 a2 a3 a4 a5 a6 a7 => ?_⟩)
      (by rw [hsize]; omega) (by rw [Array.size_push, hsize]; omega)
    · refine (hP'.snoc hT').keep fun T hT o e => oth T o (fun q => ?_) e
      rcases List.mem_append.mp hT with hT | hT
      · exact (hTs T hT).2.2.2 q
      · rw [List.mem_singleton.mp hT] at q; exact absurd q (Nat.ne_of_gt hLs)
    · refine List.pairwise_append.mpr ⟨hpw, List.pairwise_singleton .., fun T hT T' hT' => ?_⟩
      rw [List.mem_singleton.mp hT']; exact hP.lt T hT
    · intro T hT
      rcases List.mem_append.mp hT with hT | hT
      · exact hTs T hT
      · rw [List.mem_singleton.mp hT]; exact ⟨Nat.ne_of_gt lz, Nat.ne_of_gt l1, Nat.ne_of_gt l2, Nat.ne_of_gt hLs⟩
    · intro j p hj
      have hpl : ps.length = i := by
        have : ∀ {Ts : List Addr} {ps : List (Value × Value)}, Pairs s.heap Ts ps → ps.length = Ts.length := by
          intro Ts ps h
          induction h with
          | nil => rfl
          | cons _ _ ih => rw [List.length_cons, List.length_cons, ih]
        rw [this hP, hlen]
      rw [List.getElem?_append] at hj
      split at hj
      · exact hps j p hj
      · rename_i hge
        have : j = i := by
          by_cases h0 : j - ps.length = 0
          · omega
          · rw [List.getElem?_eq_none (by simp; omega)] at hj; cases hj
        subst this
        rw [hpl, Nat.sub_self] at hj
        cases hj
        exact ⟨y1, y2⟩
    · refine hR h2 tk2 Ts2 ps2 c3 a1 a2 a3 a4 (fun T hT => ?_) a6 fun b' o d1 d2 d3 d4 d5 e => a7 b' o d1 d2 d3 d4 d5 (oth _ _ d5 (b _ _ d1 (fun _ => d2) d3 d4 e))
      rcases a5 T hT with q | q
      · rcases List.mem_append.mp q with q | q
        · exact .inl q
        · rw [List.mem_singleton.mp q]; exact .inr (Nat.le_refl _)
      · refine .inr ?_
        have hh : (h'.update L (Obj.mapSeq (·.push (.ref s.heap.objs.size)))).objs.size = h'.objs.size := Heap.size_update ..
        have q : (h'.update L (Obj.mapSeq (·.push (.ref s.heap.objs.size)))).objs.size ≤ T := q
        omega
theorem zip_no_len : typeLookup (.type "zip") "__len__" = pure none := by rw [typeLookup_type, builtinLookup_eq_fast]; kernel_rfl
theorem zip_no_hint : typeLookup (.type "zip") "__length_hint__" = pure none := by rw [typeLookup_type, builtinLookup_eq_fast]; kernel_rfl
/-- what list(zip) leaves -/
def ZipOut (P1 P2 : Nat → Value → Prop) (z TO i1 i2 L : Addr) (N base : Nat) (h h' : Heap) (Ts : List Addr) (ps : List (Value × Value)) : Prop :=
  (∃ c, LstAt h' L Ts c) ∧ Pairs h' Ts ps ∧ Ts.length = N ∧ Ts.Pairwise (· < ·) ∧ (∀ T ∈ Ts, base ≤ T) ∧ (∀ j p, ps[j]? = some p → P1 j p.1 ∧ P2 j p.2) ∧ ∀ b o, b ≠ z → b ≠ TO → b ≠ i1 → b ≠ i2 → b ≠ L → h.get? b = some o → h'.get? b = some o
theorem zip_extend {R : Result → Shared → Prop} (S : ZipSep2 z TI TO i1 i2 fp1 fp2) (D1 : Draws prog w A.in1.in1 i1 fp1 n1 P1 St1) (D2 : Draws prog w A.in1.in1 i2 fp2 n2 P2 St2) (hn : min n1 n2 ≤ sizeLine) {L : Addr} (hL : L ∉ z :: TI :: TO :: (fp1 ++ fp2)) (res : Value) (c₀ : Nat)
    (hz : IsZip s.heap z TI TO .none) (hZ : ZH St1 St2 z TI TO i1 i2 0 s.heap) (hS : s.heap.get? L = some { cls := .type "list", data := .seq #[] c₀ })
    (hR : ∀ h' tk Ts ps, ZipOut P1 P2 z TO i1 i2 L (min n1 n2) s.heap.objs.size s.heap h' Ts ps → R (.ok (.ret res)) { s with heap := h', toks := tk }) :
    wpAny (model prog w) A.in1 (Builtin.List.listExtendWith (.ref L) (.ref z) res)
      (fun fin s' => match fin with | .done f => R (.ok f) s' | .again c' => c'.quiet = true ∧ codeAny (model prog w) A c' R s') (fun e s' => R (.error e) s') s := by
  have hT : s.TypeIs (.ref z) "zip" := ⟨_, hz, rfl⟩
  have hLz : L ≠ z := fun e => hL (e ▸ List.mem_cons_self)
  unfold Builtin.List.listExtendWith
  refine wpAny_bind (wpAny_typeOf hT ?_)
  have h1 : Builtin.List.listSameRef (.ref L) (.ref z) = false := by simp [Builtin.List.listSameRef, hLz]
  have h2 : (Value.type "zip" == Value.type "list") = false := by decide
  have h3 : (Value.type "zip" == Value.type "tuple") = false := by decide
  simp only [h1, h2, h3, Bool.or_false, Bool.false_eq_true, if_false]
  refine wpAny_bind (wpAny_pyIter_zip hz ?_)
  refine wpAny_bind (wpAny_holding ?_)
  unfold Builtin.List.listLengthHint
  refine wpAny_bind (wpAny_specialOf hT zip_no_len ?_)
  show wpAny _ A.in1 (specialOf (Value.ref z) (Str.ofString "__length_hint__") >>= _) _ _ _
  refine wpAny_bind (wpAny_specialOf hT zip_no_hint ?_)
  refine wpAny_pure ?_
  show wpAny _ A.in1 (rule "list.extend.makes-room" >>= fun _ => Builtin.List.listTouch (.ref L) >>= fun _ =>
    again (.builtin "list.extend.loop" ⟨[.ref L, .ref z, res], []⟩)) _ _ _
  refine wpAny_bind (wpAny_rule ?_)
  refine wpAny_bind ?_
  show wpAny _ A.in1 (updateSeq L (·.push .none) >>= fun _ => updateSeq L (·.pop)) _ _ _
  refine wpAny_bind (wpAny_updateSeq hS rfl ?_)
  have hS₂ := Heap.get?_update_self (Obj.mapSeq (·.push Value.none)) hS rfl
  refine wpAny_updateSeq (hz := by seq_fits) hS₂ rfl ?_
  have hS₃ := Heap.get?_update_self (Obj.mapSeq (·.pop)) hS₂ rfl
  have oth : ∀ b o, b ≠ L → s.heap.get? b = some o → ((s.heap.update L (Obj.mapSeq (·.push Value.none))).update L (Obj.mapSeq (·.pop))).get? b = some o :=
    fun b o hb e => (Heap.get?_update_other _ _ (Ne.symm hb)).trans ((Heap.get?_update_other _ _ (Ne.symm hb)).trans e)
  have hsz : ((s.heap.update L (Obj.mapSeq (·.push Value.none))).update L (Obj.mapSeq (·.pop))).objs.size = s.heap.objs.size := by rw [Heap.size_update, Heap.size_update]
  refine wpAny_pure ⟨plainId_quiet PySem.F.plain_extend_loop _, zip_loop S D1 D2 hn hL _ _ 0 _ [] [] _ rfl (Nat.zero_le _) (hZ.frame S D1 D2 hL ⟨_, hS, rfl⟩ oth) hS₃ .nil rfl List.Pairwise.nil (fun T h => by cases h) (fun j p h => by simp at h) fun h' tk Ts ps c a1 a2 a3 a4 a5 a6 a7 => ?_⟩
  refine hR h' tk Ts ps ⟨⟨c, a1⟩, a2, a3, a4, fun T hT => ?_, a6, fun b o d1 d2 d3 d4 d5 e => a7 b o d1 d2 d3 d4 d5 (oth b o d5 e)⟩
  rcases a5 T hT with q | q
  · cases q
  · have q : ((s.heap.update L (Obj.mapSeq (·.push Value.none))).update L (Obj.mapSeq (·.pop))).objs.size ≤ T := q
    rw [hsz] at q; exact q
theorem zip_init {R : Result → Shared → Prop} (S : ZipSep2 z TI TO i1 i2 fp1 fp2) (D1 : Draws prog w A.in1.in1 i1 fp1 n1 P1 St1) (D2 : Draws prog w A.in1.in1 i2 fp2 n2 P2 St2) (hn : min n1 n2 ≤ sizeLine) {L : Addr} (hL : L ∉ z :: TI :: TO :: (fp1 ++ fp2))
    (hz : IsZip s.heap z TI TO .none) (hZ : ZH St1 St2 z TI TO i1 i2 0 s.heap) (hS : s.heap.get? L = some { cls := .type "list", data := .seq #[] })
    (hR : ∀ h' tk Ts ps, ZipOut P1 P2 z TO i1 i2 L (min n1 n2) s.heap.objs.size s.heap h' Ts ps → R (.ok (.ret .none)) { s with heap := h', toks := tk }) :
    wpAny (model prog w) A.in1 (Builtin.«list.__init__» ⟨[.ref L, .ref z], []⟩)
      (fun fin s' => match fin with | .done f => R (.ok f) s' | .again c' => c'.quiet = true ∧ codeAny (model prog w) A c' R s') (fun e s' => R (.error e) s') s := by
  have hL' := hL
  simp only [List.mem_cons, List.mem_append, not_or] at hL'
  obtain ⟨n0, n1', n2', n3, n4⟩ := hL'
  show wpAny _ A.in1 (do let old ← Builtin.List.listItems (.ref L); Builtin.List.listUpdate (.ref L) (fun _ => #[]); letGo old.toList.reverse; Builtin.List.listExtendWith (.ref L) (.ref z) .none) _ _ s
  refine wpAny_bind ?_
  unfold Builtin.List.listItems
  refine wpAny_bind (wpAny_seqItems hS rfl (wpAny_pure ?_))
  show wpAny _ A.in1 (updateSeq L (fun _ => #[]) >>= fun _ => letGo (#[] : Array Value).toList.reverse >>= fun _ => Builtin.List.listExtendWith (.ref L) (.ref z) .none) _ _ s
  refine wpAny_bind (wpAny_updateSeq hS rfl ?_)
  have hS₂ := Heap.get?_update_self (Obj.mapSeq (fun _ => (#[] : Array Value))) hS rfl
  have oth : ∀ b o, b ≠ L → s.heap.get? b = some o → (s.heap.update L (Obj.mapSeq (fun _ => (#[] : Array Value)))).get? b = some o :=
    fun b o hb e => (Heap.get?_update_other _ _ (Ne.symm hb)).trans e
  have hsz : (s.heap.update L (Obj.mapSeq (fun _ => (#[] : Array Value)))).objs.size = s.heap.objs.size := Heap.size_update ..
  refine wpAny_bind (wpAny_letGo ?_)
  refine zip_extend (s := { s with heap := s.heap.update L (Obj.mapSeq (fun _ => (#[] : Array Value))) }) S D1 D2 hn hL .none _ (oth _ _ (Ne.symm n0) hz) (hZ.frame S D1 D2 hL ⟨_, hS, rfl⟩ oth) hS₂ fun h' tk Ts ps ⟨a1, a2, a3, a4, a5, a6, a7⟩ => ?_
  exact hR h' tk Ts ps ⟨a1, a2, a3, a4, fun T hT => by have q := a5 T hT; rw [hsz] at q; exact q, a6, fun b o d1 d2 d3 d4 d5 e => a7 b o d1 d2 d3 d4 d5 (oth b o d5 e)⟩
theorem call_list_zip {Q : Value → Shared → Prop} (S : ZipSep2 z TI TO i1 i2 fp1 fp2) (D1 : Draws prog w A.in1.in1.in1 i1 fp1 n1 P1 St1) (D2 : Draws prog w A.in1.in1.in1 i2 fp2 n2 P2 St2) (hn : min n1 n2 ≤ sizeLine)
    (hz : IsZip s.heap z TI TO .none) (hZ : ZH St1 St2 z TI TO i1 i2 0 s.heap) (hfp : ∀ b ∈ z :: TI :: TO :: (fp1 ++ fp2), b < s.heap.objs.size)
    (hQ : ∀ h' tk Ts ps, ZipOut P1 P2 z TO i1 i2 s.heap.objs.size (min n1 n2) (s.heap.objs.size + 1) s.heap h' Ts ps → Q (.ref s.heap.objs.size) { s with heap := h', toks := tk }) :
    wpAny (model prog w) A (call (.type "list") [.ref z]) Q E s := by
  have hL : s.heap.objs.size ∉ z :: TI :: TO :: (fp1 ++ fp2) := fun hm => Nat.lt_irrefl _ (hfp _ hm)
  refine callType_codes (Q₁ := fun obj s₁ => obj = .ref s.heap.objs.size ∧ s₁ = { s with heap := s.heap.push { cls := .type "list", data := .seq #[] } }) PySem.F.called_list (PySem.F.typeCall_list_1 _) PySem.F.entry_list_init
    (code_list_new _ ⟨rfl, rfl⟩) fun obj s₁ h₁ => ?_
  obtain ⟨rfl, rfl⟩ := h₁
  have hS : (s.heap.push { cls := .type "list", data := .seq #[] }).get? s.heap.objs.size = some { cls := .type "list", data := .seq #[] } := Heap.get?_push_size _ rfl
  have up : ∀ b o, s.heap.get? b = some o → (s.heap.push { cls := .type "list", data := .seq #[] }).get? b = some o := fun b o e => Heap.get?_push_of_some _ e
  have hsz : (s.heap.push { cls := .type "list", data := .seq #[] }).objs.size = s.heap.objs.size + 1 := Heap.size_push ..
  have hZ' : ZH St1 St2 z TI TO i1 i2 0 (s.heap.push { cls := .type "list", data := .seq #[] }) := by
    refine ⟨up _ _ hZ.ti, D1.frame _ _ _ hZ.s1 fun b _ o e => up b o e, D2.frame _ _ _ hZ.s2 fun b _ o e => up b o e, ?_⟩
    rcases hZ.zs with ⟨e0, hz', a1, a2, hTO⟩ | ⟨T, f, oT, hz', hT', t⟩
    · exact .inl ⟨e0, up _ _ hz', a1, a2, up _ _ hTO⟩
    · exact .inr ⟨T, f, oT, up _ _ hz', up _ _ hT', t⟩
  refine ⟨⟨_, hS, rfl⟩, PySem.F.args_list_init_2 _ _, zip_init (s := { s with heap := s.heap.push { cls := .type "list", data := .seq #[] } }) S D1 D2 hn hL (up _ _ hz) hZ' hS fun h' tk Ts ps ⟨a1, a2, a3, a4, a5, a6, a7⟩ => ?_⟩
  exact ⟨rfl, hQ h' tk Ts ps ⟨a1, a2, a3, a4, fun T hT => by have q := a5 T hT; rw [hsz] at q; exact q, a6, fun b o d1 d2 d3 d4 d5 e => a7 b o d1 d2 d3 d4 d5 (up b o e)⟩⟩
end
end Pv
set_option Elab.async false
set_option linter.all false
set_option maxRecDepth 100000
/-! P27: list(zip(a, b)), the rule -/
namespace Pv
open PySem PySem.Spec PyProof.Rows L2
theorem un_laids {fs ex : List Addr} {H H' : Hp} {h h' : Heap} (k : ∀ b u, h.get? b = some u → h'.get? b = some u) (sm : Same H H') (fr : ∀ b, H b = none → H' b ≠ none → h.objs.size ≤ b) : Un fs ex H H' h h' where
  keep := fun b u q _ _ _ => k b u q
  slot := fun b u q _ _ _ => ⟨u.slots, k b u q⟩
  free := fun b u q n _ => by
    cases e : H' b with
    | none => rfl
    | some v => exact absurd (Heap.lt_size q) (Nat.not_lt_of_le (fr b n (by rw [e]; exact nofun)))
  there := fun b u q _ => ⟨u, k b u q⟩
  tups := fun b xs q => sm _ _ q
  frzs := fun b u xs q => sm _ _ q
  tbls := fun b ps q => ⟨#[], by rw [sm _ _ q]; simp⟩
theorem hok_laids {P : Program} {w : World} {H H' : Hp} {h h' : Heap} (x : HOk P w H h) (k : ∀ b u, h.get? b = some u → h'.get? b = some u) (sm : Same H H') (new : ∀ b u, H b = none → H' b = some u → ObjOk P w H' h' b u) : HOk P w H' h' := fun b u e => by
  cases hb : H b with
  | none => exact new b u hb e
  | some v =>
    rw [sm b _ hb] at e
    cases e
    exact (x b _ hb).stay (fun c v _ q => k c v q) (fun c q => sm _ _ q) fun c xs q => sm _ _ q
/-- the tuples of a zip -/
def putsT (H : Hp) : List Addr → List (V × V) → Hp
  | T :: Ts, p :: ps => upd (putsT H Ts ps) T (.tup [p.1, p.2])
  | _, _ => H
theorem putsT_out {H : Hp} : ∀ {Ts : List Addr} {ps : List (V × V)} {b : Addr}, b ∉ Ts → putsT H Ts ps b = H b
  | [], ps, b, _ => by cases ps <;> rfl
  | T :: Ts, [], b, _ => rfl
  | T :: Ts, p :: ps, b, h => by
    simp only [List.mem_cons, not_or] at h
    show upd (putsT H Ts ps) T _ b = _
    rw [upd_ne h.1, putsT_out h.2]
theorem putsT_in {H : Hp} : ∀ {Ts : List Addr} {ps : List (V × V)} {b : Addr} {u : HO}, putsT H Ts ps b = some u → H b = some u ∨ ∃ (i : Nat) (p : V × V), Ts[i]? = some b ∧ ps[i]? = some p ∧ u = .tup [p.1, p.2]
  | [], ps, b, u, h => by cases ps <;> exact .inl h
  | T :: Ts, [], b, u, h => .inl h
  | T :: Ts, p :: ps, b, u, h => by
    have h : upd (putsT H Ts ps) T (.tup [p.1, p.2]) b = some u := h
    by_cases e : b = T
    · subst e
      rw [upd_same] at h
      cases h
      exact .inr ⟨0, p, rfl, rfl, rfl⟩
    · rw [upd_ne e] at h
      rcases putsT_in h with q | ⟨i, p', q1, q2, q3⟩
      · exact .inl q
      · exact .inr ⟨i + 1, p', q1, q2, q3⟩
def rZipL (K : PySem.W.Frag) (vs : List V) (H : Hp) (Q : VK) : Prop := ∃ (b c : Bool) (a d : Addr) (xs ys : List V), vs = [.ref a, .ref d] ∧ Sq K H b a xs ∧ Sq K H c d ys ∧ min xs.length ys.length ≤ sizeLine ∧
  ∀ (Ts : List Addr) (L : Addr), Ts.length = min xs.length ys.length → Ts.Pairwise (· < ·) → L ∉ Ts → H L = none → (∀ T ∈ Ts, H T = none) → Q (.ref L) (upd (putsT H Ts (xs.zip ys)) L (.lst (Ts.map V.ref)))
def tZipL (K : PySem.W.Frag) (ta : TA) : TE := fun σ H Q => ta σ H fun vs H1 => rZipL K vs H1 Q
theorem zip_vals {xs ys : List V} {its its2 : List Value} (r : Vals xs its) (r2 : Vals ys its2) (i : Nat) (x y : Value) (h1 : its[i]? = some x) (h2 : its2[i]? = some y) : ∃ u v, (xs.zip ys)[i]? = some (u, v) ∧ RelV u x ∧ RelV v y := by
  have l1 := r.length
  have l2 := r2.length
  have hi := (List.getElem?_eq_some_iff.mp h1).1
  have hj := (List.getElem?_eq_some_iff.mp h2).1
  obtain ⟨x', e1, q1⟩ := r.get (i := i) (x := xs[i]'(by omega)) (List.getElem?_eq_getElem _)
  obtain ⟨y', e2, q2⟩ := r2.get (i := i) (x := ys[i]'(by omega)) (List.getElem?_eq_getElem _)
  rw [h1] at e1; rw [h2] at e2
  cases e1; cases e2
  refine ⟨_, _, ?_, q1, q2⟩
  rw [List.getElem?_zip_eq_some]
  exact ⟨List.getElem?_eq_getElem _, List.getElem?_eq_getElem _⟩
theorem pairs_at {h : Heap} : ∀ {Ts : List Addr} {ps : List (Value × Value)} {i : Nat} {T : Addr}, Pairs h Ts ps → Ts[i]? = some T → ∃ p, ps[i]? = some p ∧ IsTupOf2 h T p.1 p.2
  | _ :: _, _, 0, T, .cons r t, e => by cases e; exact ⟨_, rfl, r⟩
  | _ :: _, _, i + 1, T, .cons r t, e => pairs_at (i := i) t (by simpa using e)
theorem vals_refs : ∀ Ts : List Addr, Vals (Ts.map V.ref) (Ts.map Value.ref)
  | [] => .nil
  | T :: Ts => .cons rfl (vals_refs Ts)
theorem IsQ.keep {h h' : Heap} {b : Bool} {a : Addr} {its : Array Value} (e : IsQ h b a its) (k : ∀ o, h.get? a = some o → h'.get? a = some o) : IsQ h' b a its := by
  cases b
  · obtain ⟨o, ho, r⟩ := e; exact ⟨o, k _ ho, r⟩
  · obtain ⟨o, ho, r⟩ := e; exact ⟨o, k _ ho, r⟩
section
variable {X : Cx}
theorem pe_lstZip {e e2 : Expr} {ta : TA} {p p2 q pos : Pos} (hcalm : X.calm = true) (hg : Gl X "list") (hm : X.mg "list" = none) (hg2 : Gl X "zip") (hm2 : X.mg "zip" = none) (ha : PA X [e, e2] ta)
    (hs : starEach [e, e2] X.env = (false, eval e X.env) :: starEach [e2] X.env := by rfl) (hpl : (backTo q (starEach [e2] X.env)).any (·.1) = false := by rfl)
    (na : starEach [.Call (.Name "zip" p2) [e, e2] [] q] X.env = (false, eval (.Call (.Name "zip" p2) [e, e2] [] q) X.env) :: starEach [] X.env := by rfl) :
    PE X (.Call (.Name "list" p) [.Call (.Name "zip" p2) [e, e2] [] q] [] pos) (tZipL X.K ta) := by
  refine ⟨fun pins s σ H Q I h => ?_⟩
  refine Call_ (ld_blt (u := .type "list") I hg hm (by rfl) ?_)
  refine PyProof.Rows.callWith_type1 (PyProof.Rows.args_cons ?_ na) na rfl
  refine Call_ (ld_blt I hg2 hm2 PyProof.Rows.boot_zip (PyProof.Rows.callWith_type1 (thn (ha.run q pins s σ H _ I h) fun us s1 ⟨vs, H1, I1, r1, q1⟩ => ?_) hs hpl))
  obtain ⟨b, c, a, d, xs, ys, ex, hqx, hqy, hmin, q⟩ := q1
  subst ex
  cases r1 with
  | cons r rr =>
    cases rr with
    | cons r' rr =>
      cases rr
      cases r
      cases r'
      obtain ⟨its, rv, p1⟩ := sq_at I1 hqx
      obtain ⟨its2, rv2, p2⟩ := sq_at I1 hqy
      refine zip_begins2 (begins b a its.toArray) (begins c d its2.toArray) p1 p2 fun h' hz hTI hTO h1 h2 hsz hk => PyProof.Rows.args_nil ?_
      have la := p1.lt
      have ld := p2.lt
      have l1 := rv.length
      have l2 := rv2.length
      have hmn : min its.toArray.size its2.toArray.size = min xs.length ys.length := by rw [List.size_toArray, List.size_toArray, l1, l2]
      have q1' : IsQ h' b a its.toArray := p1.keep fun o e => hk _ _ e
      have q2' : IsQ h' c d its2.toArray := p2.keep fun o e => hk _ _ e
      have hh := I1.ok.hd hcalm
      have D1 := draws (prog := X.prog) (w := X.w) (A := X.A.in1.in1.in1) (by simpa using hh) b s1.heap.objs.size a (Nat.ne_of_lt la) its.toArray
      have D2 := draws (prog := X.prog) (w := X.w) (A := X.A.in1.in1.in1) (by simpa using hh) c (s1.heap.objs.size + 1) d (Nat.ne_of_lt (Nat.lt_succ_of_lt ld)) its2.toArray
      have S := zip_sep2 (N := s1.heap.objs.size) (fp1 := [a]) (fp2 := [d]) (fun b hb => by rw [List.mem_singleton.mp hb]; exact la) (fun b hb => by rw [List.mem_singleton.mp hb]; exact ld)
      refine call_list_zip S D1 D2 (by rw [hmn]; exact hmin) hz ⟨hTI, ⟨IsI.new h1, q1'⟩, ⟨IsI.new h2, q2'⟩, .inl ⟨rfl, hz, _, _, hTO⟩⟩ (fun b hb => ?_) fun h2' tk Ts ps ⟨⟨cc, a1⟩, a2, a3, a4, a5, a6, a7⟩ => ?_
      · simp only [List.mem_cons, List.mem_append, List.not_mem_nil, or_false, false_or] at hb
        show b < h'.objs.size
        rw [hsz]
        have e5 : ∀ {x : Addr}, x < s1.heap.objs.size → x < s1.heap.objs.size + 5 := fun h => Nat.lt_of_lt_of_le h (Nat.le_add_right _ _)
        have e6 : ∀ (i : Nat), i < 5 → s1.heap.objs.size + i < s1.heap.objs.size + 5 := fun i h => Nat.add_lt_add_left h _
        rcases hb with hb | hb | hb | (hb | hb) | hb | hb <;> subst hb
        · exact e6 4 (by decide)
        · exact e6 2 (by decide)
        · exact e6 3 (by decide)
        · exact e6 0 (by decide)
        · exact e5 la
        · exact e6 1 (by decide)
        · exact e5 ld
      · have lo : ∀ b o, s1.heap.get? b = some o → h2'.get? b = some o := fun b o e => by
          have lb := Heap.lt_size e
          exact a7 b o (Nat.ne_of_lt (Nat.lt_of_lt_of_le lb (Nat.le_add_right _ _))) (Nat.ne_of_lt (Nat.lt_of_lt_of_le lb (Nat.le_add_right _ _))) (Nat.ne_of_lt lb) (Nat.ne_of_lt (Nat.lt_succ_of_lt lb)) (Nat.ne_of_lt (show b < h'.objs.size by rw [hsz]; exact Nat.lt_of_lt_of_le lb (Nat.le_add_right _ _))) (hk b o e)
        have a5' : ∀ T ∈ Ts, h'.objs.size + 1 ≤ T := a5
        have leL : s1.heap.objs.size ≤ h'.objs.size := by rw [hsz]; exact Nat.le_add_right _ _
        have leT : ∀ T ∈ Ts, s1.heap.objs.size ≤ T := fun T hT => Nat.le_trans leL (Nat.le_trans (Nat.le_succ _) (a5' T hT))
        have hT0 : ∀ T ∈ Ts, H1 T = none := fun T hT => I1.hok.fresh (leT T hT)
        have hL0 : H1 h'.objs.size = none := I1.hok.fresh leL
        have hLT : h'.objs.size ∉ Ts := fun hm => Nat.not_succ_le_self _ (a5' _ hm)
        have a3' : Ts.length = min xs.length ys.length := by rw [a3, hmn]
        have out : ∀ b, b ≠ h'.objs.size → b ∉ Ts → upd (putsT H1 Ts (xs.zip ys)) h'.objs.size (.lst (Ts.map V.ref)) b = H1 b := fun b n1 n2 => by
          rw [upd_ne n1, putsT_out n2]
        have sm : Same H1 (upd (putsT H1 Ts (xs.zip ys)) h'.objs.size (.lst (Ts.map V.ref))) := fun b o e => by
          rw [out b (fun q => by rw [q, hL0] at e; cases e) (fun q => by rw [hT0 b q] at e; cases e)]; exact e
        refine ⟨.ref h'.objs.size, _, I1.un (t' := tk) (un_laids lo sm fun b e1 e2 => ?_) (hok_laids I1.hok lo sm fun b u e1 e2 => ?_), rfl, q Ts _ a3' a4 hLT hL0 hT0⟩
        · by_cases hb1 : b = h'.objs.size
          · rw [hb1]; exact leL
          by_cases hb2 : b ∈ Ts
          · exact leT b hb2
          · rw [out b hb1 hb2] at e2; exact absurd e1 e2
        · by_cases hb1 : b = h'.objs.size
          · subst hb1
            rw [upd_same] at e2
            cases e2
            exact ⟨by rw [List.length_map, a3']; exact hmin, Ts.map Value.ref, cc, vals_refs Ts, a1⟩
          · rw [upd_ne hb1] at e2
            rcases putsT_in e2 with q3 | ⟨i, p, q3, q4, rfl⟩
            · rw [e1] at q3; cases q3
            · obtain ⟨pv, q5, q6⟩ := pairs_at a2 q3
              obtain ⟨q7, q8⟩ := a6 i pv q5
              obtain ⟨u, v, q9, r9, r10⟩ := zip_vals rv rv2 i pv.1 pv.2 (by simpa using q7) (by simpa using q8)
              rw [q4] at q9
              cases q9
              exact ⟨show 2 ≤ sizeLine by decide, [pv.1, pv.2], .cons r9 (.cons r10 .nil), ⟨_, q6, rfl, _, rfl⟩⟩
end
end Pv
set_option Elab.async false
set_option linter.all false
set_option maxRecDepth 100000
/-! P28: list(zip(a, b)) as a value function -/
namespace Pv
open PySem PySem.Spec PyProof.Rows L2
section
variable {X : Cx} {K : PySem.W.Frag} {G0 G G1 G' H H' : Hp} {σ : L2.St} {ρ : Env} {ws : List (V × Arg)} {F F1 F2 : List Addr} {e a b c tg : Expr} {es : List Expr} {pos : Pos} {A B C : Fe}
theorem grow_puts (e : Same G H) : ∀ {Ts : List Addr} {ds cs : List D} {xs ys : List V}, Ts.length = min xs.length ys.length → Ts.Pairwise (· < ·) → (∀ T ∈ Ts, H T = none) → RepFs K G ds xs → RepFs K G cs ys →
    ∃ G', Grow G H G' (putsT H Ts (xs.zip ys)) [] ∧ RepFs K G' (zipF ds cs) (Ts.map V.ref)
  | [], ds, cs, xs, ys, hl, _, _, r1, r2 => by
    refine ⟨G, ?_, ?_⟩
    · have : putsT H [] (xs.zip ys) = H := by cases xs.zip ys <;> rfl
      rw [this]; exact Grow.refl e
    · have : zipF ds cs = [] := by
        have l1 := r1.len
        have l2 := r2.len
        cases ds with
        | nil => rfl
        | cons d ds =>
          cases cs with
          | nil => rfl
          | cons c cs =>
            simp only [List.length_cons, List.length_nil] at hl l1 l2
            omega
      rw [this]; exact rfl
  | T :: Ts, [], cs, xs, ys, hl, _, _, r1, r2 => by
    have l1 := r1.len
    simp only [List.length_cons, List.length_nil] at hl l1
    omega
  | T :: Ts, d :: ds, [], xs, ys, hl, _, _, r1, r2 => by
    have l2 := r2.len
    simp only [List.length_cons, List.length_nil] at hl l2
    omega
  | T :: Ts, d :: ds, c :: cs, xs, ys, hl, pw, hf, ⟨x, xs', e1, q1, r1⟩, ⟨y, ys', e2, q2, r2⟩ => by
    subst e1 e2
    obtain ⟨p1, p2⟩ := List.pairwise_cons.mp pw
    obtain ⟨G1, g1, rr⟩ := grow_puts (Ts := Ts) e (by simp only [List.length_cons] at hl; omega) p2 (fun T' h => hf T' (List.mem_cons_of_mem _ h)) r1 r2
    have hT : putsT H Ts (xs'.zip ys') T = none := by
      rw [putsT_out fun hm => Nat.lt_irrefl _ (p1 T hm)]
      exact hf T List.mem_cons_self
    have g2 := Grow.newF (o := .tup [x, y]) g1.gh hT
    refine ⟨_, g1.trans g2 (fun a h => by cases h), ⟨.ref T, Ts.map V.ref, rfl, ⟨T, [x, y], rfl, upd_same, ?_⟩, RepFs.mono g2.gg _ _ rr⟩⟩
    exact ⟨x, [y], rfl, RepF.mono (g1.gg.trans g2.gg) _ _ q1, y, [], rfl, RepF.mono (g1.gg.trans g2.gg) _ _ q2, rfl⟩
def pLstZip (A B : Fe) : Fe := fun ρ => (aCons A (aCons B aNil) ρ).bind fun as => (ownAll as).bind fun ds => match ds with
  | [d, c] => (seqD d).bind fun p => (seqD c).bind fun q => if min p.2.length q.2.length ≤ big then some (.v 1 (.lst (zipF p.2 q.2))) else none
  | _ => none
theorem e_lstZip {p p2 q : Pos} (hcalm : X.calm = true) (hg : Gl X "list") (hm : X.mg "list" = none) (hg2 : Gl X "zip") (hm2 : X.mg "zip" = none) (ha : OkE X a A) (hb : OkE X b B)
    (hs : starEach [a, b] X.env = (false, eval a X.env) :: starEach [b] X.env := by rfl) (hs2 : starEach [b] X.env = [(false, eval b X.env)] := by rfl) (hpl : (backTo q (starEach [b] X.env)).any (·.1) = false := by rfl)
    (na : starEach [.Call (.Name "zip" p2) [a, b] [] q] X.env = (false, eval (.Call (.Name "zip" p2) [a, b] [] q) X.env) :: starEach [] X.env := by rfl) :
    OkE X (.Call (.Name "list" p) [.Call (.Name "zip" p2) [a, b] [] q] [] pos) (pLstZip A B) :=
  PE.imp (pe_lstZip (ta := tA X.K (aCons A (aCons B aNil))) hcalm hg hm hg2 hm2 (a_cons ha (a_cons hb a_nil hs2) hs) hs hpl na) fun σ H Q ⟨G0, ρ, ws, x, I, hf, post⟩ => by
  obtain ⟨as, has, hf⟩ := Option.bind_eq_some_iff.mp hf
  obtain ⟨cs, hcs, hf⟩ := Option.bind_eq_some_iff.mp hf
  split at hf
  · rename_i d c
    obtain ⟨⟨b1, ds1⟩, h1, hf⟩ := Option.bind_eq_some_iff.mp hf
    obtain ⟨⟨b2, ds2⟩, h2, hf⟩ := Option.bind_eq_some_iff.mp hf
    simp only at hf
    split at hf
    · rename_i hbig
      cases hf
      refine args_frozen I has hcs fun vs H1 G F1 F2 J r => ?_
      obtain ⟨v, vs, rfl, r1, v2, vs2, rfl, r2, rfl⟩ := r
      obtain ⟨p1, xs, rfl, q1, rx⟩ := seqD_rep h1 r1
      obtain ⟨p2', ys, rfl, q2, ry⟩ := seqD_rep h2 r2
      refine ⟨b1, b2, p1, p2', xs, ys, rfl, same_q J.ex q1, same_q J.ex q2, by rw [rx.len, ry.len]; exact big_line hbig, fun Ts L hl pw hLT hL hT => ?_⟩
      obtain ⟨G', g1, rr⟩ := grow_puts J.ex hl pw hT rx ry
      have hL' : putsT H1 Ts (xs.zip ys) L = none := by rw [putsT_out hLT]; exact hL
      have g2 := Grow.newO (o := .lst (Ts.map V.ref)) g1.gh hL' trivial
      refine post _ _ (J.push (k := 1) (d := .lst (zipF ds1 ds2)) (g1.trans g2 (fun a h => by cases h)) ?_).SI
      exact ⟨L, Ts.map V.ref, [], rfl, upd_same, rfl, ROs.of_F rr⟩
    · cases hf
  · cases hf
end
end Pv
set_option Elab.async false
set_option linter.all false
set_option maxRecDepth 100000
/-! P29: tuple * n -/
namespace Pv
open PySem PySem.Spec PyProof.Rows L2
section
variable {X : Cx} {K : PySem.W.Frag} {G0 G G1 G' H H' : Hp}
theorem RepFs.flat {ds : List D} {xs : List V} (h : RepFs K G ds xs) : ∀ n, RepFs K G (List.replicate n ds).flatten (List.replicate n xs).flatten
  | 0 => rfl
  | n + 1 => by
    rw [List.replicate_succ, List.replicate_succ, List.flatten_cons, List.flatten_cons]
    exact h.append (RepFs.flat h n)
def rRepN (K : PySem.W.Frag) : R2 := fun x y H Q => rRep01 K x y H Q ∨ rRepT K x y H Q
theorem op_repN : OpR X (binaryOp .Mult) (rRepN X.K) := OpR.or op_rep01 op_repT
def gMulT2 : W → W → Option W
  | (_, .tup ds), (_, .int k) => if ds ≠ [] ∧ 2 ≤ k ∧ k ≤ 1000 ∧ ds.length ≤ 1000 then some (0, .tup (List.replicate k.toNat ds).flatten) else none
  | _, _ => none
theorem g_mulT2 : Op2 K (rRepT K) gMulT2 := by
  intro G H u v x y Fu Fv w e ru rv hw
  unfold gMulT2 at hw
  split at hw
  · obtain rfl := rv.int
    obtain ⟨a, xs, rfl, h1, h2⟩ := ru.tupE
    split at hw
    · rename_i hk
      cases hw
      refine Res.tup e (h2.flat _) fun Q q => ⟨a, _, xs, rfl, rfl, SqT.of (e _ _ h1), fun z => hk.1 ?_, hk.2.1, hk.2.2.1, by rw [h2.len]; exact hk.2.2.2, q⟩
      have := h2.len
      rw [z] at this
      exact List.eq_nil_of_length_eq_zero this.symm
    · cases hw
  · cases hw
def gMulN (u v : W) : Option W := (gMulT u v).orElse fun _ => gMulT2 u v
theorem g_mulN : Op2 K (rRepN K) gMulN := Op2.or g_mulT g_mulT2
end
end Pv
set_option Elab.async false
set_option linter.all false
set_option maxRecDepth 100000
/-! P30: x is True, x is None -/
namespace Pv
open PySem PySem.Spec PyProof.Rows L2
section
variable {X : Cx} {K : PySem.W.Frag} {G H : Hp}
def rIsB : R2 := fun x y H Q => ∃ a b, x = .bl a ∧ y = .bl b ∧ Q (.bl (decide (a = b))) H
theorem op_isB : OpR X (compareOp .Is) rIsB := by
  intro pins s σ H x y v u Q I rx ry h
  obtain ⟨m, n, rfl, rfl, q⟩ := h
  cases (show v = Value.bool m from rx)
  cases (show u = Value.bool n from ry)
  by_cases e : m = n
  · subst e
    exact wpAny_is_self rfl ⟨.bl true, H, I, rfl, by simpa using q⟩
  · exact wpAny_is_other rfl (fun z => e (Value.bool.inj z)) ⟨.bl false, H, I, rfl, by simpa [e] using q⟩
def gIsB : W → W → Option W
  | (_, .bl a), (_, .bl b) => some (0, .bl (decide (a = b)))
  | _, _ => none
theorem g_isB : Op2 K rIsB gIsB := by
  intro G H u v x y Fu Fv w e ru rv hw
  unfold gIsB at hw; split at hw
  · cases hw
    obtain rfl := ru.bl
    obtain rfl := rv.bl
    exact Res.pure (v := .bl _) e rfl fun Q q => ⟨_, _, rfl, rfl, q⟩
  · cases hw
def rIsA : R2 := fun x y H Q => (y = .non ∧ Q (.bl (decide (x = .non))) H) ∨ rIsB x y H Q
theorem op_isA : OpR X (compareOp .Is) rIsA := OpR.or op_isN op_isB
def gIsA (u v : W) : Option W := (gIsN u v).orElse fun _ => gIsB u v
@[simp] theorem isA_b {k l : Nat} {a b : Bool} : gIsA (k, .bl a) (l, .bl b) = some (0, .bl (decide (a = b))) := rfl
theorem g_isA : Op2 K rIsA gIsA := Op2.or g_isN g_isB
end
end Pv
set_option Elab.async false
set_option linter.all false
set_option maxRecDepth 100000
/-! P31: defs with defaults -/
namespace Pv
open PySem PySem.Spec PyProof.Rows L2
section
variable {P : Program} {w : World} {K : PySem.W.Frag} {mg : Str → Option Value} {base : Heap}
abbrev FunDD (K : PySem.W.Frag) (x qual : Str) (st : Stmt) (dvs : List V) (f : Addr) (fd : FuncData) : Prop := FunD K x qual (defArgs st) (defBody st) (defScope st) dvs [] f fd
theorem fnDD {x qual : Str} {st : Stmt} {dvs : List V} {f : Addr} {fd : FuncData} {N ps : List Str} {k : Nat} {m : List D → Option W} {bd : Fs} (F : FunDD K x qual st dvs f fd) (S : FnScope N ps (defScope st)) (len : ∀ ds w, m ds = some w → ds.length = ps.length)
    (hb : ∀ (cdv : Value) (A : Around) (outer : List PySem.Env) (s : Shared) (H : Hp), Room k (A.deeper (envOfC qual (defScope st) s.heap.objs.size f cdv)) → OkB (cxOf CX0 P w K mg base N qual (defScope st) f cdv A outer s H E0).nox (defBody st) bd)
    (hm : ∀ ds w, m ds = some w → runB N.length bd ds = some w) : FnOk P w K mg base CX0 (k + 1) f fd ps (spD K m) := by
  refine F.ok S (fun vs H Q E h => ?_) (fun cdv A outer s H vs Q E hr h => ?_)
  · obtain ⟨ds, w, h1, h2, _⟩ := h
    rw [h1.len]; exact len ds w h2
  · obtain ⟨ds, w, h1, h2, q⟩ := h
    have hb' : PSs _ _ _ := hb cdv A outer s H hr
    refine ⟨_, hb'.nox, ?_⟩
    have h3 := hm ds w h2
    unfold runB at h3
    obtain ⟨⟨fl, ρ'⟩, h4, h5⟩ := Option.bind_eq_some_iff.mp h3
    refine ⟨H, initE N.length ds, fl, ρ', SI.init h1, h4, ?_⟩
    cases fl with
    | rt w' => cases h5; exact fun v H' r => q v H' r
    | nx =>
      cases h5
      exact fun σ H' ⟨G, F1, F2, J⟩ => q _ H' ⟨G, [], J.ex0, J.ex, ⟨rfl, rfl⟩, List.nodup_nil, (fun a ha => by cases ha), J.tu⟩
    | bk => cases h5
    | ct => cases h5
theorem fnMD {x qual : Str} {st : Stmt} {dvs : List V} {f : Addr} {fd : FuncData} {N ps : List Str} {k : Nat} {bd : Fs} (F : FunDD K x qual st dvs f fd) (S : FnScope N ps (defScope st))
    (hb : ∀ (cdv : Value) (A : Around) (outer : List PySem.Env) (s : Shared) (H : Hp), Room k (A.deeper (envOfC qual (defScope st) s.heap.objs.size f cdv)) → OkB (cxOf CX0 P w K mg base N qual (defScope st) f cdv A outer s H E0).nox (defBody st) bd) :
    FnOk P w K mg base CX0 (k + 1) f fd ps (spD K (mkM N.length ps.length bd)) :=
  fnDD F S (fun ds u h => (mkM_some h).1) hb fun ds u h => (mkM_some h).2.1
theorem FnG.mkD {x : Str} {f : Addr} {fd : FuncData} {ps : List Str} {k n j : Nat} {bd : Fs} {dd : List D} {dvs : List V} {dus : List Value} (h : FnOk P w K mg base CX0 k f fd ps (spD K (mkM n j bd))) (hm : mg x = some (.ref f)) (hk : PySem.W.keepIn K (.ref f) = true) (hb : Binds K fd ps dus) (hv : Vals dvs dus) (hr : ∀ H, RepFs K H dd dvs) : FnG P w K mg base k x (mkM n j bd) dd :=
  ⟨⟨f, fd, ps, dvs, dus, h, hm, hk, hb, hv, hr⟩, mkM_cl⟩
theorem fund_mk {x qual : Str} {st : Stmt} {f T : Addr} {oc cT : Value} {od an oT : Option Addr} {osl sT : Array (Option Value)} {kV doc pm cdv ct : Value} {its : List Value} {n : Nat} {dvs : List V} (l : K.lookup f = some ⟨oc, od, .func (PySem.W.fnOf x qual (defArgs st) (defBody st) (defScope st) (.ref T) kV doc pm an cdv ct), osl⟩)
    (c : PySem.W.codeIn K cdv qual = true) (k : PySem.W.keepIn K (.ref f) = true) (lT : K.lookup T = some ⟨cT, oT, .seq its.toArray n, sT⟩) (hv : Vals dvs its) (hn : dvs ≠ []) : FunDD K x qual st dvs f (PySem.W.fnOf x qual (defArgs st) (defBody st) (defScope st) (.ref T) kV doc pm an cdv ct) :=
  ⟨⟨oc, od, .ref T, kV, doc, pm, an, cdv, ct, osl, rfl, l, c, .inr ⟨hn, T, _, its, n, rfl, lT, rfl, hv⟩, .inl rfl⟩, k⟩
/-- the empty tuple of the top -/
theorem rep_unit {U : Addr} {n : Nat} {sl : Array (Option Value)} (l : K.lookup U = some ⟨.type "tuple", none, .seq #[] n, sl⟩) (H : Hp) : RepF K H (.ktp []) (.ref U) :=
  ⟨U, [], rfl, .inl ⟨_, _, _, l, rfl, rfl, rfl, Nat.zero_le _, .nil⟩, rfl⟩
end
end Pv
set_option Elab.async false
set_option linter.all false
set_option maxRecDepth 100000
/-! P32: list.index, max(x, default=d) -/
namespace Pv
open PySem PySem.Spec PyProof.Rows L2
section
variable {X : Cx} {K : PySem.W.Frag} {G0 G G1 G' H H' : Hp} {σ : L2.St} {ρ : Env} {ws : List (V × Arg)} {F F1 F2 : List Addr} {e a b c : Expr} {es : List Expr} {pos : Pos} {A B C : Fe}
/-! ### list.index -/
def gLIndex : W → W → Option W
  | (k, .lst ds), (j, d) => if k ≤ 1 ∧ eqOk (j, d) = true then (toPys ds).bind fun ps => (toPy d).bind fun p => if SeqAt.shaped (.list ps) = true ∧ SeqAt.shaped p = true then (idxP p ps 0).map fun n => (0, .int (n : Nat)) else none else none
  | _, _ => none
theorem g_lindex : Op2 K (fun x y H Q => rIndexD K x [y] H Q) gLIndex := by
  intro G H u v x y Fu Fv w e ru rv hw
  unfold gLIndex at hw
  split at hw
  · split at hw
    · rename_i hk
      obtain ⟨ps, hps, hw⟩ := Option.bind_eq_some_iff.mp hw
      obtain ⟨p, hp, hw⟩ := Option.bind_eq_some_iff.mp hw
      split at hw
      · rename_i ok
        obtain ⟨n, hn, rfl⟩ := Option.map_eq_some_iff.mp hw
        obtain ⟨a, xs, rfl, h1, h2⟩ := ru.lst1 e hk.1
        obtain ⟨z, _, hz, he, hno⟩ := idxP_spec ps 0 n hn
        exact Res.pure (v := .int _) e rfl fun Q q => ⟨a, y, p, ps, n, z, rfl, rfl, .lst (SqL.of h1) (dps_of e _ ps xs hps h2), dp_ro e hk.2 hp rv, ok.1, ok.2, by simpa using hz, he, fun m z' hm hz' => hno m z' (by omega) hz', q⟩
      · cases hw
    · cases hw
  · cases hw
theorem e_lindex {apos cpos : Pos} (hu : X.A.units + 65 < cLine) (ha : OkE X a A) (hb : OkE X b B) (hfew : ((backTo cpos (starEach (b :: []) X.env)).all (fun x => !x.1) && (backToKw cpos (keywordEach [] X.env)).all (fun x => x.1.isSome)
      && decide ((b :: []).length + ([] : List Keyword).length + (if ([] : List Keyword).isEmpty then 0 else 1) < 30)) = true := by rfl) (hbase : attributeBase a "index" X.env (eval a X.env) = eval a X.env := by rfl)
    (hline : (apos.endLine == cpos.line) = true := by rfl) (hs : starEach (b :: []) X.env = (false, eval b X.env) :: starEach [] X.env := by rfl) : OkE X (.Call (.Attribute a "index" apos) [b] [] cpos) (pOp2 gLIndex A B) :=
  PE.imp (pe_bm PySem.F.plainAttrs_list PySem.F.slot_list_index PySem.F.type_list_index (mt_indexD hu) ha (a_cons hb a_nil hs) hbase hfew hline hs (by rfl)) (bmL_imp g_lindex fun G H u v x F w e ru hw => by
    unfold gLIndex at hw
    split at hw
    · split at hw
      · rename_i hk
        obtain ⟨a, xs, rfl, h1, h2⟩ := ru.lst1 e hk.1
        exact .inl ⟨rfl, _, SqL.of h1⟩
      · cases hw
    · cases hw)
/-! ### max(x, default=d), ints -/
def maxOr (d : Int) : List Int → Int
  | [] => d
  | n :: r => maxI n r
theorem maxI_fold : ∀ (r : List Int) (n : Int), r.foldl max n = maxI n r
  | [], _ => rfl
  | m :: r, n => by
    rw [List.foldl_cons]
    unfold maxI
    rw [← maxI_fold r]
    congr 1
    by_cases h : n < m
    · rw [if_pos h]; omega
    · rw [if_neg h]; omega
def rMaxDef (K : PySem.W.Frag) : List V → List V → Hp → VK → Prop := fun vs zs H Q => ∃ (a : Addr) (ns : List Int) (d : Int), vs = [V.ref a] ∧ zs = [V.int d] ∧ SqL K H a (ns.map V.int) ∧ Q (.int (maxOr d ns)) H
theorem dp_ints : ∀ ns : List Int, DpAll K H (ns.map V.int) (ns.map PyData.int)
  | [] => .nil
  | n :: ns => .cons (.int n) (dp_ints ns)
theorem depth_ints : ∀ ns : List Int, PyData.depthAll (ns.map PyData.int) = 0
  | [] => rfl
  | n :: ns => by
    show max (PyData.depth (.int n)) (PyData.depthAll (ns.map PyData.int)) = 0
    rw [depth_ints ns]; simp [PyData.depth]
theorem cr_maxDef (hc : X.calm = true) (hu : X.A.units + 64 < cLine) : CallRK X (.builtin "max") [Str.ofString "default"] (rMaxDef X.K) := by
  intro pins s σ H vs zs us ws Q I r rz h
  obtain ⟨a, ns, d, rfl, rfl, hs, q⟩ := h
  obtain ⟨its, rv, hl, _⟩ := I.list hs
  rw [Vals.ref1 r]
  obtain ⟨w1, rfl, t, e1⟩ := vals1 rz
  subst e1
  obtain ⟨as, hr⟩ := Dp.readsAll I (ns.map PyData.int) _ its (dp_ints ns) rv
  refine PySem.W.max_list_default (I.ok.hd hc) hl.isList hr ⟨fun x hx y hy => ?_, fun x hx => ?_⟩ (by rw [depth_ints]; omega) (fun h0 h' tk hk => ?_) (fun y ys i v h' tk bs h1 h2 h3 hk => ?_)
  · obtain ⟨m, _, rfl⟩ := List.mem_map.mp hx
    obtain ⟨n, _, rfl⟩ := List.mem_map.mp hy
    rfl
  · obtain ⟨m, _, rfl⟩ := List.mem_map.mp hx
    exact fun z => by cases z
  · cases ns with
    | nil => exact ⟨.int _, H, I.kept hk, ⟨_, rfl⟩, q⟩
    | cons n r => cases h0
  · cases ns with
    | nil => cases h1
    | cons n r =>
      cases h1
      rw [PySem.W.maxD_ints, maxI_fold] at h3
      cases h3
      exact ⟨.int _, H, I.kept hk, ⟨_, rfl⟩, q⟩
def gMaxDef : W → W → Option W := fun u v => (listD u).bind fun ds => (intsD ds).bind fun ns => match v with
  | (_, .int d) => some (0, .int (maxOr d ns))
  | _ => none
theorem g_maxDef : Op2 K (fun x y H Q => rMaxDef K [x] [y] H Q) gMaxDef := by
  intro G H u v x y Fu Fv w e ru rv hw
  obtain ⟨ds, hd, hw⟩ := Option.bind_eq_some_iff.mp hw
  obtain ⟨ns, hn, hw⟩ := Option.bind_eq_some_iff.mp hw
  obtain ⟨a, xs, rfl, h1, h2⟩ := list_rep e hd ru
  have := ints_rep hn h2
  subst this
  split at hw
  · cases hw
    obtain rfl := rv.int
    exact Res.pure (v := .int _) e rfl fun Q q => ⟨a, ns, _, rfl, rfl, h1, q⟩
  · cases hw
theorem e_maxDef {p : Pos} {kp : Pos} (hc : X.calm = true) (hu : X.A.units + 64 < cLine) (hg : Gl X "max") (hm : X.mg "max" = none) (ha : OkE X a A) (hb : OkE X b B) (hs : starEach (a :: []) X.env = (false, eval a X.env) :: starEach [] X.env := by rfl)
    (he : backTo pos (starEach [a] X.env) = (false, eval a X.env) :: backTo pos (starEach [] X.env) := by rfl) (hpl : (backTo pos (starEach [a] X.env)).any (·.1) = false := by rfl)
    (hall : (backToKw pos (keywordEach [⟨some "default", b, kp⟩] X.env)).all (·.1.isSome) = true := by rfl) (hnone : (backToKw pos (keywordEach [⟨some "default", b, kp⟩] X.env)).any (·.1.isNone) = false := by rfl) (hks : (backToKw pos (keywordEach [⟨some "default", b, kp⟩] X.env)).filterMap (·.1) = [Str.ofString "default"] := by rfl) :
    OkE X (.Call (.Name "max" p) [a] [⟨some "default", b, kp⟩] pos) (pOp2 gMaxDef A B) :=
  PE.imp (pe_callBK (cr_maxDef hc hu) hg hm (by rfl) (pa_cons ha pa_nil hs) (pk_cons hb pk_nil) (by decide) (by decide) he hpl hall hnone hks) fun σ H Q h =>
    op2_imp (r := fun x y H Q => rMaxDef X.K [x] [y] H Q) g_maxDef σ H Q h
end
end Pv
set_option Elab.async false
set_option linter.all false
set_option maxRecDepth 100000
/-! R1: running the data, by simp; what holds behind a statement (Wp) -/
namespace Pv
open PySem L2
section
variable {ρ ρ1 : Env} {A B C : Fe} {T U : Fb} {f g : Fs} {i j n k l : Nat} {d c : D} {w u v : W} {t : Tg} {Q : Fl → Env → Prop}
/-- what holds behind a run -/
@[irreducible] def Wp (x : Option (Fl × Env)) (Q : Fl → Env → Prop) : Prop := match x with
  | some p => Q p.1 p.2
  | none => False
@[simp] theorem wp_some {fl : Fl} : Wp (some (fl, ρ)) Q = Q fl ρ := by unfold Wp; rfl
@[simp] theorem wp_none : Wp none Q = False := by unfold Wp; rfl
theorem Wp.mono {x : Option (Fl × Env)} {Q Q' : Fl → Env → Prop} (h : Wp x Q) (i : ∀ fl ρ, Q fl ρ → Q' fl ρ) : Wp x Q' := by
  rcases x with _ | ⟨fl, ρ⟩
  · rw [wp_none] at h; exact h.elim
  · rw [wp_some] at h ⊢; exact i _ _ h
theorem Wp.ex {x : Option (Fl × Env)} (h : Wp x Q) : ∃ fl ρ, x = some (fl, ρ) ∧ Q fl ρ := by
  rcases x with _ | ⟨fl, ρ⟩
  · rw [wp_none] at h; exact h.elim
  · rw [wp_some] at h; exact ⟨_, _, rfl, h⟩
def thenQ (g : Fs) (Q : Fl → Env → Prop) : Fl → Env → Prop
  | .nx, ρ => Wp (g ρ) Q
  | .bk, ρ => Q .bk ρ
  | .ct, ρ => Q .ct ρ
  | .rt w, ρ => Q (.rt w) ρ
@[simp] theorem thenQ_nx : thenQ g Q .nx ρ = Wp (g ρ) Q := rfl
@[simp] theorem thenQ_bk : thenQ g Q .bk ρ = Q .bk ρ := rfl
@[simp] theorem thenQ_ct : thenQ g Q .ct ρ = Q .ct ρ := rfl
@[simp] theorem thenQ_rt : thenQ g Q (.rt w) ρ = Q (.rt w) ρ := rfl
@[simp] theorem wp_seq : Wp (bSeq f g ρ) Q = Wp (f ρ) (thenQ g Q) := by
  unfold bSeq
  rcases f ρ with _ | ⟨fl, ρ'⟩
  · simp
  · cases fl <;> simp
@[simp] theorem wp_nil : Wp (bNil ρ) Q = Q .nx ρ := by unfold bNil; simp
@[simp] theorem wp_pass : Wp (sPass ρ) Q = Q .nx ρ := by unfold sPass; simp
@[simp] theorem wp_break : Wp (sBreak ρ) Q = Q .bk ρ := by unfold sBreak; simp
@[simp] theorem wp_cont : Wp (sCont ρ) Q = Q .ct ρ := by unfold sCont; simp
def iteP : Option Bool → Prop → Prop → Prop
  | some b, P, R => (b = true → P) ∧ (b = false → R)
  | none, _, _ => False
@[simp] theorem iteP_t {P R : Prop} : iteP (some true) P R = P := by simp [iteP]
@[simp] theorem iteP_f {P R : Prop} : iteP (some false) P R = R := by simp [iteP]
theorem iteP_b {b : Bool} {P R : Prop} : iteP (some b) P R = ((b = true → P) ∧ (b = false → R)) := rfl
@[simp] theorem wp_if : Wp (sIf T f g ρ) Q = iteP (T ρ) (Wp (f ρ) Q) (Wp (g ρ) Q) := by
  unfold sIf
  rcases T ρ with _ | b
  · simp [iteP]
  · cases b <;> simp
def asgP (i : Nat) : Option Arg → Env → (Fl → Env → Prop) → Prop
  | some (.v k d), ρ, Q => i < ρ.length ∧ Q .nx (ρ.set i (some (k, d)))
  | _, _, _ => False
@[simp] theorem asgP_s : asgP i (some (.v k d)) ρ Q = (i < ρ.length ∧ Q .nx (ρ.set i (some (k, d)))) := rfl
@[simp] theorem wp_asg : Wp (sAsg i A ρ) Q = asgP i (A ρ) ρ Q := by
  rw [r_asg]
  unfold asgR asgP
  rcases A ρ with _ | a
  · simp
  · cases a with
    | r x => simp
    | v k d =>
      by_cases h : i < ρ.length
      · simp [h]
      · simp [h]
@[irreducible] def bindP (t : Tg) (f : Fs) (d : D) (ρ : Env) (Q : Fl → Env → Prop) : Prop := match bindT t (0, d) ρ with
  | some ρ1 => Wp (f ρ1) Q
  | none => False
/-- one turn: the target bound, then the body -/
theorem for_cons {ds : List D} : Wp (loopF t f (d :: ds) ρ) Q = bindP t f d ρ (fun fl ρ' => match fl with | .nx => Wp (loopF t f ds ρ') Q | .ct => Wp (loopF t f ds ρ') Q | .bk => Q .nx ρ' | .rt w => Q (.rt w) ρ') := by
  rw [l_cons]
  unfold bindP bindR
  rcases bindT t (0, d) ρ with _ | ρ1
  · simp
  · show Wp (stepL t f ds (f ρ1)) Q = Wp (f ρ1) _
    rcases f ρ1 with _ | ⟨fl, ρ2⟩
    · simp [stepL]
    · cases fl <;> simp [stepL]
def turnQ (N : Env → Prop) (Q : Fl → Env → Prop) : Fl → Env → Prop
  | .nx, ρ => N ρ
  | .ct, ρ => N ρ
  | .bk, ρ => Q .nx ρ
  | .rt w, ρ => Q (.rt w) ρ
@[simp] theorem turnQ_nx {N : Env → Prop} : turnQ N Q .nx ρ = N ρ := rfl
@[simp] theorem turnQ_ct {N : Env → Prop} : turnQ N Q .ct ρ = N ρ := rfl
@[simp] theorem turnQ_bk {N : Env → Prop} : turnQ N Q .bk ρ = Q .nx ρ := rfl
@[simp] theorem turnQ_rt {N : Env → Prop} : turnQ N Q (.rt w) ρ = Q (.rt w) ρ := rfl
theorem bindP_mono {Q Q' : Fl → Env → Prop} (h : bindP t f d ρ Q) (i : ∀ fl ρ, Q fl ρ → Q' fl ρ) : bindP t f d ρ Q' := by
  unfold bindP at h ⊢
  cases hb : bindT t (0, d) ρ with
  | none => rw [hb] at h; exact h
  | some ρ1 => rw [hb] at h; exact Wp.mono h i
@[simp] theorem bindP_nm : bindP (.nm i) f d ρ Q = (i < ρ.length ∧ Wp (f (ρ.set i (some (0, d)))) Q) := by
  unfold bindP
  rw [bind_nm]
  by_cases h : i < ρ.length
  · simp [h]
  · simp [h]
@[simp] theorem bindP_tp2 {a b : D} : bindP (.tp [.nm i, .nm j]) f (.tup [a, b]) ρ Q = (i < ρ.length ∧ j < ρ.length ∧ Wp (f ((ρ.set i (some (0, a))).set j (some (0, b)))) Q) := by
  unfold bindP bindT
  simp only [List.length_cons, List.length_nil, if_true, bindTs, bind_nm]
  by_cases h : i < ρ.length
  · by_cases h2 : j < ρ.length
    · simp [h, h2]
    · simp [h, h2]
  · simp [h]
/-- A LOOP by what holds of the part taken -/
theorem wp_for {α : Type} {inj : α → D} (xs : List α) (I : List α → Env → Prop) {ds : List D} (hds : ds = xs.map inj) (h0 : I [] ρ)
    (hs : ∀ (pre : List α) (a : α) (post : List α) (ρ : Env), xs = pre ++ a :: post → I pre ρ → bindP t f (inj a) ρ (turnQ (I (pre ++ [a])) Q)) (hQ : ∀ ρ', I xs ρ' → Q .nx ρ') : Wp (loopF t f ds ρ) Q := by
  subst hds
  have key : ∀ (post pre : List α) (ρ : Env), xs = pre ++ post → I pre ρ → Wp (loopF t f (post.map inj) ρ) Q := by
    intro post
    induction post with
    | nil => intro pre ρ e h; rw [List.append_nil] at e; subst e; rw [List.map_nil, l_nil, wp_some]; exact hQ ρ h
    | cons a post ih =>
      intro pre ρ e h
      rw [List.map_cons, for_cons]
      refine bindP_mono (hs pre a post ρ e h) fun fl ρ' q => ?_
      cases fl with
      | nx => exact ih (pre ++ [a]) ρ' (by rw [e]; simp) q
      | ct => exact ih (pre ++ [a]) ρ' (by rw [e]; simp) q
      | bk => exact q
      | rt w => exact q
  exact key xs [] ρ rfl h0
/-- range(n): by the number of turns -/
theorem wp_range (m : Nat) (I : Nat → Env → Prop) {ds : List D} (hds : ds = rngD 0 m) (h0 : I 0 ρ) (hs : ∀ (a : Nat) (ρ : Env), a < m → I a ρ → bindP t f (.int (a : Nat)) ρ (turnQ (I (a + 1)) Q)) (hQ : ∀ ρ', I m ρ' → Q .nx ρ') : Wp (loopF t f ds ρ) Q := by
  subst hds
  refine wp_for (inj := fun a : Nat => D.int (a : Nat)) (List.range m) (fun pre => I pre.length) (by unfold rngD; simp) h0 (fun pre a post ρ e h => ?_) (fun ρ' h => hQ ρ' (by simpa using h))
  have hp : pre.length = a := by
    have h1 : (List.range m)[pre.length]? = some a := by rw [e]; simp
    have h2 := List.getElem?_eq_some_iff.mp h1
    obtain ⟨h3, h4⟩ := h2
    simpa using h4
  have ha : a < m := by
    have : a ∈ List.range m := by rw [e]; simp
    simpa using this
  rw [List.length_append, hp]
  exact hs a ρ ha (by rw [← hp]; exact h)
/-- A WHILE by a number that falls -/
theorem wp_while (I : Nat → Env → Prop) {m N : Nat} (h0 : I m ρ) (hm : m < N) (hs : ∀ (m : Nat) (ρ : Env), I m ρ → iteP (T ρ) (Wp (f ρ) (turnQ (fun ρ' => ∃ m', m' < m ∧ I m' ρ') Q)) (Q .nx ρ)) : Wp (sWhile N T f ρ) Q := by
  have key : ∀ (N m : Nat) (ρ : Env), m < N → I m ρ → Wp (loopW T f N ρ) Q := by
    intro N
    induction N with
    | zero => intro m ρ h; omega
    | succ N ih =>
      intro m ρ h hI
      have h1 := hs m ρ hI
      have e0 : loopW T f (N + 1) ρ = (T ρ).bind fun c => if c = true then (f ρ).bind fun p => match p.1 with
        | .nx => loopW T f N p.2
        | .ct => loopW T f N p.2
        | .bk => some (.nx, p.2)
        | .rt w => some (.rt w, p.2)
        else some (.nx, ρ) := rfl
      rw [e0]
      rcases hT : T ρ with _ | b
      · rw [hT] at h1; exact h1.elim
      · rw [hT] at h1
        cases b with
        | false => rw [iteP_f] at h1; simp; exact h1
        | true =>
          rw [iteP_t] at h1
          simp only [Option.bind_some, if_true]
          obtain ⟨fl, ρ2, e, q⟩ := h1.ex
          rw [e]
          cases fl with
          | nx => obtain ⟨m', hm', hI'⟩ := q; simp; exact ih m' ρ2 (by omega) hI'
          | ct => obtain ⟨m', hm', hI'⟩ := q; simp; exact ih m' ρ2 (by omega) hI'
          | bk => simp; exact q
          | rt w => simp; exact q
  exact key N m ρ hm h0
/-- a def, by its body -/
theorem def_of {n k : Nat} {bd : Fs} {ds : List D} {w : W} (h : ds.length = k) (hc : cleanD w.1 w.2 = true) (hw : ∀ Q : Fl → Env → Prop, (∀ ρ, Q (.rt w) ρ) → Wp (bd (initE n ds)) Q) : mkM n k bd ds = some w := by
  rw [r_m h]
  obtain ⟨fl, ρ, e, q⟩ := (hw (fun fl _ => fl = .rt w) fun _ => rfl).ex
  rw [e, q, fin_rt, if_pos hc]
theorem clean0 (d : D) : cleanD 0 d = noBox d := by cases d <;> rfl
theorem def_of0 {n k : Nat} {bd : Fs} {ds : List D} {d : D} (h : ds.length = k) (hc : noBox d = true) (hw : ∀ Q : Fl → Env → Prop, (∀ ρ, Q (.rt (0, d)) ρ) → Wp (bd (initE n ds)) Q) : mkM n k bd ds = some (0, d) := def_of h (by show cleanD 0 d = true; rw [clean0]; exact hc) hw
theorem def_ex {n k : Nat} {bd : Fs} {ds : List D} (P : W → Prop) (h : ds.length = k) (hc : ∀ w, P w → cleanD w.1 w.2 = true) (hw : ∀ Q : Fl → Env → Prop, (∀ w ρ, P w → Q (.rt w) ρ) → Wp (bd (initE n ds)) Q) : ∃ w, mkM n k bd ds = some w ∧ P w := by
  rw [r_m h]
  obtain ⟨fl, ρ, e, w, q, hp⟩ := (hw (fun fl _ => ∃ w, fl = .rt w ∧ P w) fun w ρ h => ⟨w, rfl, h⟩).ex
  exact ⟨w, by rw [e, q, fin_rt, if_pos (hc w hp)], hp⟩
@[simp] theorem initE_s {n : Nat} {ds : List D} : initE n ds = ds.map (fun d => some (0, d)) ++ List.replicate (n - ds.length) none := rfl
@[simp] theorem repl_s {α : Type} {n : Nat} {a : α} : List.replicate (n + 1) a = a :: List.replicate n a := rfl
end
end Pv
set_option Elab.async false
set_option linter.all false
set_option maxRecDepth 100000
/-! R2: running expressions by simp -/
namespace Pv
open PySem L2
section
variable {ρ ρ1 : Env} {A B C : Fe} {T U : Fb} {f g : Fs} {i j n k l : Nat} {d c : D} {w u v : W} {t : Tg} {Q : Fl → Env → Prop}
@[simp] theorem wp_ite {b : Prop} [Decidable b] {x : Option (Fl × Env)} : Wp (if b then x else none) Q = (b ∧ Wp x Q) := by
  by_cases h : b
  · simp [h]
  · simp [h]
@[simp] theorem iteP_not {b : Bool} {P R : Prop} : iteP (some (!b)) P R = iteP (some b) R P := by cases b <;> simp
@[simp] theorem iteP_dec {b : Prop} [Decidable b] {P R : Prop} : iteP (some (decide b)) P R = ((b → P) ∧ (¬ b → R)) := by simp [iteP_b]
/-! operations -/
@[simp] theorem add_i {a b : Int} : gAdd (k, .int a) (l, .int b) = some (0, .int (a + b)) := rfl
@[simp] theorem add_t {a b : List D} : gAdd (k, .tup a) (l, .tup b) = if a.length + b.length ≤ 1000000 then some (0, .tup (a ++ b)) else none := (rfl)
@[simp] theorem add_l {a b : List D} : gAdd (k, .lst a) (l, .lst b) = if k ≤ 1 ∧ l ≤ 1 ∧ a.length + b.length ≤ 1000000 then some (1, .lst (a ++ b)) else none := (rfl)
@[simp] theorem add_s {a b : Str} : gAdd (k, .str a) (l, .str b) = if a.length + b.length ≤ 1000000 then some (0, .str (a ++ b)) else none := (rfl)
@[simp] theorem sub_i {a b : Int} : gSub (k, .int a) (l, .int b) = some (0, .int (a - b)) := rfl
@[simp] theorem mul_i {a b : Int} : gMulI (k, .int a) (l, .int b) = if (-(2 ^ 64) < b ∧ b < 2 ^ 64) ∨ (-(2 ^ 64) < a ∧ a < 2 ^ 64) then some (0, .int (a * b)) else none := (rfl)
@[simp] theorem fdiv_i {a b : Int} : gFdiv (k, .int a) (l, .int b) = if 0 < b ∧ b < 1073741824 then some (0, .int (a / b)) else none := (rfl)
@[simp] theorem mod_i {a b : Int} : gMod (k, .int a) (l, .int b) = if 0 < b then some (0, .int (a % b)) else none := (rfl)
@[simp] theorem neg_i {a : Int} : gNeg (k, .int a) = some (0, .int (-a)) := rfl
@[simp] theorem cmp_i {p : Int → Int → Bool} {a b : Int} : gCmpI p (k, .int a) (l, .int b) = some (0, .bl (p a b)) := rfl
@[simp] theorem addI_i {a b : Int} : gAddI (k, .int a) (l, .int b) = some (0, .int (a + b)) := rfl
@[simp] theorem eq_i {a b : Int} : gEq (k, .int a) (l, .int b) = some (0, .bl (decide (a = b))) := by simp [gEq, eqOk, isBox, gEqD, gEqS]
@[simp] theorem eq_s {a b : Str} : gEq (k, .str a) (l, .str b) = some (0, .bl (decide (a = b))) := by simp [gEq, eqOk, isBox, gEqD, gEqS]
@[simp] theorem eq_b {a b : Bool} : gEq (k, .bl a) (l, .bl b) = some (0, .bl (decide (a = b))) := by simp [gEq, eqOk, isBox, gEqD, gEqS]
@[simp] theorem eq_nn : gEq (k, .non) (l, .non) = some (0, .bl true) := by simp [gEq, eqOk, isBox, gEqD, gEqS]
@[simp] theorem eq_ni {b : Int} : gEq (k, .non) (l, .int b) = some (0, .bl false) := by simp [gEq, eqOk, isBox, gEqD, gEqS]
@[simp] theorem eq_in {b : Int} : gEq (k, .int b) (l, .non) = some (0, .bl false) := by simp [gEq, eqOk, isBox, gEqD, gEqS]
@[simp] theorem ne_i {a b : Int} : gNe (k, .int a) (l, .int b) = some (0, .bl (!decide (a = b))) := by simp [gNe, eqOk, isBox, gEqD, gEqS]
@[simp] theorem ne_s {a b : Str} : gNe (k, .str a) (l, .str b) = some (0, .bl (!decide (a = b))) := by simp [gNe, eqOk, isBox, gEqD, gEqS]
@[simp] theorem ne_b {a b : Bool} : gNe (k, .bl a) (l, .bl b) = some (0, .bl (!decide (a = b))) := by simp [gNe, eqOk, isBox, gEqD, gEqS]
@[simp] theorem ne_nn : gNe (k, .non) (l, .non) = some (0, .bl false) := by simp [gNe, eqOk, isBox, gEqD, gEqS]
@[simp] theorem ne_ni {b : Int} : gNe (k, .non) (l, .int b) = some (0, .bl true) := by simp [gNe, eqOk, isBox, gEqD, gEqS]
@[simp] theorem ne_in {b : Int} : gNe (k, .int b) (l, .non) = some (0, .bl true) := by simp [gNe, eqOk, isBox, gEqD, gEqS]
@[simp] theorem isN_w : gIsN (k, d) (l, .non) = some (0, .bl (isNon d)) := rfl
@[simp] theorem notN_w : gNotN (k, d) (l, .non) = some (0, .bl (!isNon d)) := rfl
@[simp] theorem isNon_n : isNon .non = true := rfl
@[simp] theorem isNon_i {a : Int} : isNon (.int a) = false := rfl
@[simp] theorem isNon_t {a : List D} : isNon (.tup a) = false := rfl
@[simp] theorem isNon_s {a : Str} : isNon (.str a) = false := rfl
@[simp] theorem isNon_b {a : Bool} : isNon (.bl a) = false := rfl
@[simp] theorem isNon_l {a : List D} : isNon (.lst a) = false := rfl
@[simp] theorem int_i {a : Int} : gInt (k, .int a) = some (0, .int a) := rfl
@[simp] theorem int_b {b : Bool} : gInt (k, .bl b) = some (0, .int (if b then 1 else 0)) := rfl
@[simp] theorem abs_i {a : Int} : gAbs (k, .int a) = some (0, .int (if a < 0 then -a else a)) := rfl
@[simp] theorem len_l {ds : List D} : gLen (k, .lst ds) = some (0, .int (ds.length : Nat)) := rfl
@[simp] theorem len_t {ds : List D} : gLen (k, .tup ds) = some (0, .int (ds.length : Nat)) := rfl
@[simp] theorem len_k {ds : List D} : gLen (k, .ktp ds) = some (0, .int (ds.length : Nat)) := rfl
@[simp] theorem len_c {ns : List Int} : gLen (k, .scr ns) = some (0, .int (ns.length : Nat)) := rfl
@[simp] theorem len_s {z : Str} : gLen (k, .str z) = if z.length ≤ 1000000 then some (0, .int (z.length : Nat)) else none := (rfl)
@[simp] theorem sq_l {ds : List D} : seqD (.lst ds) = some (true, ds) := rfl
@[simp] theorem sq_t {ds : List D} : seqD (.tup ds) = some (false, ds) := rfl
@[simp] theorem sq_k {ds : List D} : seqD (.ktp ds) = some (false, ds) := rfl
@[simp] theorem ld_l {ds : List D} : listD (k, .lst ds) = if k ≤ 1 then some ds else none := (rfl)
@[simp] theorem tupOf_l {ds : List D} : gTupOf (k, .lst ds) = if k ≤ 1 then some (0, .tup ds) else none := (rfl)
@[simp] theorem tupOf_t {ds : List D} : gTupOf (k, .tup ds) = some (0, .tup ds) := rfl
@[simp] theorem tupOf_k {ds : List D} : gTupOf (k, .ktp ds) = some (0, .ktp ds) := rfl
@[simp] theorem tru_bl {b : Bool} : truth (k, .bl b) = some b := rfl
@[simp] theorem tru_non : truth (k, .non) = some false := rfl
@[simp] theorem tru_int {a : Int} : truth (k, .int a) = some (a != 0) := rfl
@[simp] theorem tru_tup {ds : List D} : truth (k, .tup ds) = some (!ds.isEmpty) := rfl
@[simp] theorem tru_lst {ds : List D} : truth (k, .lst ds) = some (!ds.isEmpty) := rfl
@[simp] theorem box_i {a : Int} : isBox (.int a) = false := rfl
@[simp] theorem box_n : isBox .non = false := rfl
@[simp] theorem box_b {a : Bool} : isBox (.bl a) = false := rfl
@[simp] theorem box_s {a : Str} : isBox (.str a) = false := rfl
@[simp] theorem box_t {a : List D} : isBox (.tup a) = false := rfl
@[simp] theorem box_k {a : List D} : isBox (.ktp a) = false := rfl
@[simp] theorem box_c {a : List Int} : isBox (.scr a) = false := rfl
@[simp] theorem box_l {a : List D} : isBox (.lst a) = true := rfl
@[simp] theorem box_d {b : Bool} {a : List (List Key × D)} : isBox (.dct b a) = true := rfl
/-! places -/
@[simp] theorem atI_n {α : Type} {xs : List α} {n : Nat} : atI xs (n : Int) = xs[n]? := by
  cases h : xs[n]? with
  | some v => exact atI_nat h
  | none =>
    have : xs.length ≤ n := List.getElem?_eq_none_iff.mp h
    unfold atI ixN
    rw [if_pos (by omega), if_neg (by omega)]; rfl
@[simp] theorem atI_0 {α : Type} {xs : List α} : atI xs 0 = xs[0]? := atI_n (n := 0)
@[simp] theorem atI_1 {α : Type} {xs : List α} : atI xs 1 = xs[1]? := atI_n (n := 1)
@[simp] theorem atI_lit {α : Type} {xs : List α} (n : Nat) : atI xs (no_index (OfNat.ofNat n : Int)) = xs[n]? := atI_n (n := n)
theorem atI_pos {α : Type} {xs : List α} {z : Int} (h : 0 ≤ z) : atI xs z = xs[z.toNat]? := by
  obtain ⟨n, rfl⟩ := Int.eq_ofNat_of_zero_le h
  rw [atI_n]; simp
@[simp] theorem ix_l {ds : List D} {a : Int} : gIx (k, .lst ds) (l, .int a) = if k ≤ 1 then (atI ds a).map fun d => (0, d) else none := (rfl)
@[simp] theorem ix_t {ds : List D} {a : Int} : gIx (k, .tup ds) (l, .int a) = (atI ds a).map fun d => (0, d) := rfl
@[simp] theorem ix_k {ds : List D} {a : Int} : gIx (k, .ktp ds) (l, .int a) = (atI ds a).map fun d => (0, d) := rfl
@[simp] theorem ix_c {ds : List Int} {a : Int} : gIx (k, .scr ds) (l, .int a) = (atI ds a).map fun n => (0, .int n) := rfl
@[simp] theorem ix_z {z : Str} {a : Int} : gIx (k, .str z) (l, .int a) = if z.length ≤ 1000000 then (atI z.cps.toList a).map fun c => (0, .str ⟨#[c]⟩) else none := (rfl)
/-! isinstance -/
@[simp] theorem isi_r {c : Ty} : pIsi c A = pOp1 (gIsi c) A := rfl
@[simp] theorem isi_i {c : Ty} {a : Int} : gIsi c (k, .int a) = some (0, .bl (isiB .int c)) := rfl
@[simp] theorem isi_b {c : Ty} {a : Bool} : gIsi c (k, .bl a) = some (0, .bl (isiB .bl c)) := rfl
@[simp] theorem isi_n {c : Ty} : gIsi c (k, .non) = some (0, .bl (isiB .non c)) := rfl
@[simp] theorem isi_s {c : Ty} {a : Str} : gIsi c (k, .str a) = some (0, .bl (isiB .str c)) := rfl
@[simp] theorem isi_t {c : Ty} {a : List D} : gIsi c (k, .tup a) = some (0, .bl (isiB .tup c)) := rfl
@[simp] theorem isi_k {c : Ty} {a : List D} : gIsi c (k, .ktp a) = some (0, .bl (isiB .tup c)) := rfl
@[simp] theorem isi_l {c : Ty} {a : List D} : gIsi c (k, .lst a) = some (0, .bl (isiB .lst c)) := rfl
@[simp] theorem isiB_d {a c : Ty} : isiB a c = decide (a = c ∨ (a = .bl ∧ c = .int)) := by cases a <;> cases c <;> rfl
/-! and, or, not, if, chains -/
def andV (A B : Fe) : Option Bool → Env → Option Arg
  | some true, ρ => B ρ
  | some false, _ => some (.v 0 (.bl false))
  | none, _ => none
@[simp] theorem andV_t : andV A B (some true) ρ = B ρ := rfl
@[simp] theorem andV_f : andV A B (some false) ρ = some (.v 0 (.bl false)) := rfl
@[simp] theorem r_andV : pAnd A B ρ = andV A B (bVal A ρ) ρ := by
  unfold pAnd
  rcases bVal A ρ with _ | b
  · rfl
  · cases b <;> rfl
def orV (A B : Fe) : Option Bool → Env → Option Arg
  | some false, ρ => B ρ
  | some true, _ => some (.v 0 (.bl true))
  | none, _ => none
@[simp] theorem orV_f : orV A B (some false) ρ = B ρ := rfl
@[simp] theorem orV_t : orV A B (some true) ρ = some (.v 0 (.bl true)) := rfl
@[simp] theorem r_orV : pOr A B ρ = orV A B (bVal A ρ) ρ := by
  unfold pOr
  rcases bVal A ρ with _ | b
  · rfl
  · cases b <;> rfl
def andW (B : Fe) : Option Bool → Env → Option W
  | some true, ρ => val B ρ
  | some false, _ => some (0, .bl false)
  | none, _ => none
@[simp] theorem andW_t : andW B (some true) ρ = val B ρ := rfl
@[simp] theorem andW_f : andW B (some false) ρ = some (0, .bl false) := rfl
@[simp] theorem v_andV : val (pAnd A B) ρ = andW B (bVal A ρ) ρ := by
  unfold val
  rw [r_andV]
  rcases bVal A ρ with _ | b
  · rfl
  · cases b <;> rfl
def orW (B : Fe) : Option Bool → Env → Option W
  | some false, ρ => val B ρ
  | some true, _ => some (0, .bl true)
  | none, _ => none
@[simp] theorem orW_f : orW B (some false) ρ = val B ρ := rfl
@[simp] theorem orW_t : orW B (some true) ρ = some (0, .bl true) := rfl
@[simp] theorem v_orV : val (pOr A B) ρ = orW B (bVal A ρ) ρ := by
  unfold val
  rw [r_orV]
  rcases bVal A ρ with _ | b
  · rfl
  · cases b <;> rfl
/-- where the second is a truth, too -/
theorem andW_b {b c : Bool} (h : val B ρ = some (0, .bl c)) : andW B (some b) ρ = some (0, .bl (b && c)) := by cases b <;> simp [h]
theorem orW_b {b c : Bool} (h : val B ρ = some (0, .bl c)) : orW B (some b) ρ = some (0, .bl (b || c)) := by cases b <;> simp [h]
theorem andR_b {b c : Bool} (h : U ρ = some c) : andR (some b) U ρ = some (b && c) := by cases b <;> simp [h]
theorem orR_b {b c : Bool} (h : U ρ = some c) : orR (some b) U ρ = some (b || c) := by cases b <;> simp [h]
def notV : Option W → Option W
  | some w => (truth w).map fun b => (0, .bl (!b))
  | none => none
@[simp] theorem notV_b {b : Bool} : notV (some (k, .bl b)) = some (0, .bl (!b)) := rfl
theorem r_notV : pNot A ρ = argR (notV (val A ρ)) := by
  unfold pNot notV argR
  rcases val A ρ with _ | w
  · rfl
  · show Option.map _ (truth w) = _
    cases h : truth w <;> simp [h]
@[simp] theorem r_notV' : pNot A ρ = argR (notV (val A ρ)) := r_notV
@[simp] theorem v_notV : val (pNot A) ρ = notV (val A ρ) := val_arg r_notV
def ifW : Option Bool → Fe → Fe → Env → Option W
  | some true, A, _, ρ => val A ρ
  | some false, _, B, ρ => val B ρ
  | none, _, _, _ => none
@[simp] theorem ifW_t : ifW (some true) A B ρ = val A ρ := rfl
@[simp] theorem ifW_f : ifW (some false) A B ρ = val B ρ := rfl
@[simp] theorem v_ifV : val (pIf T A B) ρ = ifW (T ρ) A B ρ := by
  unfold val
  rw [r_ife]
  rcases T ρ with _ | b
  · rfl
  · cases b <;> rfl
def chW (g' : W → W → Option W) (v : W) (C : Fe) (ρ : Env) : Option W → Option W
  | some (_, .bl true) => g2R g' (some v) (val C ρ)
  | some (_, .bl false) => some (0, .bl false)
  | _ => none
@[simp] theorem chW_t {g' : W → W → Option W} : chW g' v C ρ (some (k, .bl true)) = g2R g' (some v) (val C ρ) := rfl
@[simp] theorem chW_f {g' : W → W → Option W} : chW g' v C ρ (some (k, .bl false)) = some (0, .bl false) := rfl
theorem chW_b {g' : W → W → Option W} {b c : Bool} (h : g2R g' (some v) (val C ρ) = some (0, .bl c)) : chW g' v C ρ (some (k, .bl b)) = some (0, .bl (b && c)) := by cases b <;> simp [h]
def chV (g g' : W → W → Option W) (C : Fe) (ρ : Env) : Option W → Option W → Option W
  | some u, some v => chW g' v C ρ (g u v)
  | _, _ => none
@[simp] theorem chV_s {g g' : W → W → Option W} : chV g g' C ρ (some u) (some v) = chW g' v C ρ (g u v) := rfl
theorem r_chV {g g' : W → W → Option W} : pChain g g' A B C ρ = argR (chV g g' C ρ (val A ρ) (val B ρ)) := by
  unfold pChain chV
  rcases val A ρ with _ | u
  · rfl
  · rcases val B ρ with _ | v
    · rfl
    · dsimp only [Option.bind_some]
      unfold chW g2R argR
      rcases g u v with _ | ⟨k, d⟩
      · rfl
      · cases d <;> first | rfl | skip
        rename_i b
        cases b
        · rfl
        · dsimp only [Option.bind_some]
          rcases val C ρ with _ | z
          · rfl
          · dsimp only [Option.bind_some]
            cases g' v z <;> rfl
@[simp] theorem r_chV' {g g' : W → W → Option W} : pChain g g' A B C ρ = argR (chV g g' C ρ (val A ρ) (val B ρ)) := r_chV
@[simp] theorem v_chV {g g' : W → W → Option W} : val (pChain g g' A B C) ρ = chV g g' C ρ (val A ρ) (val B ρ) := val_arg r_chV
@[simp] theorem t_yes : bYes ρ = some true := rfl
/-! slices -/
def slR : Option W → Option (Option Int) → Option (Option Int) → Option W
  | some u, some lo, some hi => gSl u lo hi
  | _, _, _ => none
@[simp] theorem slR_s {lo hi : Option Int} : slR (some u) (some lo) (some hi) = gSl u lo hi := rfl
theorem r_slV {L H : Fo} : pSl A L H ρ = argR (slR (val A ρ) (L ρ) (H ρ)) := by
  unfold pSl slR
  rcases val A ρ with _ | u
  · rfl
  · rcases L ρ with _ | lo
    · rfl
    · rcases H ρ with _ | hi
      · rfl
      · show (gSl u lo hi).map _ = argR (gSl u lo hi)
        unfold argR
        cases gSl u lo hi <;> rfl
@[simp] theorem r_slV' {L H : Fo} : pSl A L H ρ = argR (slR (val A ρ) (L ρ) (H ρ)) := r_slV
@[simp] theorem v_slV {L H : Fo} : val (pSl A L H) ρ = slR (val A ρ) (L ρ) (H ρ) := val_arg r_slV
@[simp] theorem o_none_s : oNone ρ = some none := rfl
def oR : Option W → Option (Option Int)
  | some (_, .int i) => some (some i)
  | _ => none
@[simp] theorem oR_s {a : Int} : oR (some (k, .int a)) = some (some a) := rfl
@[simp] theorem o_some_s : oSome A ρ = oR (val A ρ) := by
  unfold oSome oR
  rcases val A ρ with _ | ⟨k, d⟩
  · rfl
  · cases d <;> rfl
@[simp] theorem sl_t {ds : List D} {lo hi : Option Int} : gSl (k, .tup ds) lo hi = some (0, .tup (cutL ds lo hi)) := rfl
@[simp] theorem sl_l {ds : List D} {lo hi : Option Int} : gSl (k, .lst ds) lo hi = if k ≤ 1 then some (1, .lst (cutL ds lo hi)) else none := (rfl)
theorem cut_take {α : Type} (xs : List α) (p : Nat) : cutL xs none (some (p : Int)) = xs.take p := by
  unfold cutL
  rw [HT.sIx_none, HT.sIx_nat]
  simp only [List.drop_zero, Nat.sub_zero]
  by_cases h : p ≤ xs.length
  · rw [Nat.min_eq_left h]
  · rw [Nat.min_eq_right (by omega), List.take_length, List.take_of_length_le (by omega)]
theorem cut_drop {α : Type} (xs : List α) (p : Nat) : cutL xs (some (p : Int)) none = xs.drop p := by
  unfold cutL
  rw [HT.sIx_none, HT.sIx_nat]
  by_cases h : p ≤ xs.length
  · rw [Nat.min_eq_left h]
    exact List.take_of_length_le (by simp)
  · rw [Nat.min_eq_right (by omega), List.drop_of_length_le (Nat.le_refl _), List.drop_of_length_le (by omega)]; simp
theorem cut_both {α : Type} (xs : List α) (p q : Nat) : cutL xs (some (p : Int)) (some (q : Int)) = (xs.take q).drop p := by
  unfold cutL
  rw [HT.sIx_nat, HT.sIx_nat, List.drop_take]
  by_cases h : p ≤ xs.length
  · rw [Nat.min_eq_left h]
    by_cases h2 : q ≤ xs.length
    · rw [Nat.min_eq_left h2]
    · have e : min q xs.length = xs.length := Nat.min_eq_right (by omega)
      rw [e, List.take_of_length_le (by simp), List.take_of_length_le (by simp; omega)]
  · have e : min p xs.length = xs.length := Nat.min_eq_right (by omega)
    have e2 : List.drop p xs = [] := List.drop_of_length_le (by omega)
    rw [e, List.drop_of_length_le (Nat.le_refl _), e2]; simp
/-! comprehensions -/
def lcO (j : Nat) : Option (List D) → Option W
  | some out => some (j + 1, .lst out)
  | none => none
@[simp] theorem lcO_s {out : List D} : lcO j (some out) = some (j + 1, .lst out) := rfl
def lcR (j : Nat) : Bool → Option (List D) → (List D → Option (List D)) → Option W
  | true, some ds, F => if ds.length ≤ 1000000 then lcO j (F ds) else none
  | _, _, _ => none
@[simp] theorem lcR_s {ds : List D} {F : List D → Option (List D)} : lcR j true (some ds) F = if ds.length ≤ 1000000 then lcO j (F ds) else none := (rfl)
theorem r_lcV {it : Fit} {vs : List Nat} : pLc j it t vs T A ρ = argR (lcR j (vs.all fun v => lvl0 ρ[v]?) (it ρ) (fun ds => compL t T A j (wipeE ρ vs) ds)) := by
  unfold pLc lcR
  cases vs.all fun v => lvl0 ρ[v]? with
  | false => rfl
  | true =>
    rw [if_pos rfl]
    rcases it ρ with _ | ds
    · rfl
    · show (if ds.length ≤ 1000000 then _ else _) = argR (if ds.length ≤ 1000000 then _ else _)
      by_cases h : ds.length ≤ 1000000
      · rw [if_pos h, if_pos h]
        show _ = argR (lcO j (compL t T A j (wipeE ρ vs) ds))
        unfold lcO argR
        cases compL t T A j (wipeE ρ vs) ds <;> rfl
      · rw [if_neg h, if_neg h]; rfl
@[simp] theorem r_lcV' {it : Fit} {vs : List Nat} : pLc j it t vs T A ρ = argR (lcR j (vs.all fun v => lvl0 ρ[v]?) (it ρ) (fun ds => compL t T A j (wipeE ρ vs) ds)) := r_lcV
@[simp] theorem v_lcV {it : Fit} {vs : List Nat} : val (pLc j it t vs T A) ρ = lcR j (vs.all fun v => lvl0 ρ[v]?) (it ρ) (fun ds => compL t T A j (wipeE ρ vs) ds) := val_arg r_lcV
@[simp] theorem lvl0_0 {d : D} : lvl0 (some (some (0, d))) = true := rfl
@[simp] theorem lvl0_n : lvl0 (some none) = true := rfl
@[simp] theorem wipe_nil : wipeE ρ [] = ρ := rfl
@[simp] theorem wipe_cons {v : Nat} {vs : List Nat} : wipeE ρ (v :: vs) = (wipeE ρ vs).set v none := rfl
def elC (j : Nat) : Option Bool → Option Arg → Option (Option D)
  | some true, some (.v k x) => if lvlOk j k x = true then some (some x) else none
  | some false, _ => some none
  | _, _ => none
@[simp] theorem elC_t {x : D} : elC 0 (some true) (some (.v k x)) = some (some x) := rfl
@[simp] theorem elC_f {a : Option Arg} : elC j (some false) a = some none := rfl
@[simp] theorem elC_b {b : Bool} {x : D} : elC 0 (some b) (some (.v k x)) = some (if b then some x else none) := by cases b <;> rfl
def elB (j : Nat) (T : Fb) (A : Fe) : Option Env → Option (Option D)
  | some ρ1 => elC j (T ρ1) (A ρ1)
  | none => none
@[simp] theorem elB_s : elB j T A (some ρ1) = elC j (T ρ1) (A ρ1) := rfl
def elemR (j : Nat) (t : Tg) (T : Fb) (A : Fe) (ρ : Env) (d : D) : Option (Option D) := elB j T A (bindT t (0, d) ρ)
@[simp] theorem elemR_s : elemR j t T A ρ d = elB j T A (bindT t (0, d) ρ) := rfl
theorem comp_of {α : Type} {inj : α → D} {g : α → Option D} : ∀ {xs : List α}, (∀ a ∈ xs, elemR j t T A ρ (inj a) = some (g a)) → compL t T A j ρ (xs.map inj) = some (xs.filterMap g)
  | [], _ => rfl
  | a :: xs, h => by
    have ih := comp_of (g := g) (xs := xs) fun b hb => h b (List.mem_cons_of_mem _ hb)
    have h1 := h a List.mem_cons_self
    rw [List.map_cons, List.filterMap_cons]
    show (bindT t (0, inj a) ρ).bind _ = _
    unfold elemR at h1
    rcases hb : bindT t (0, inj a) ρ with _ | ρ1
    · rw [hb] at h1; cases h1
    · rw [hb] at h1
      rw [elB_s] at h1
      dsimp only [Option.bind_some]
      rcases hT : T ρ1 with _ | b
      · rw [hT] at h1; cases A ρ1 <;> cases h1
      · rw [hT] at h1
        cases b with
        | false =>
          rw [elC_f] at h1
          rw [← Option.some.inj h1]
          simpa using ih
        | true =>
          dsimp only [Option.bind_some]
          rw [if_pos rfl]
          rcases hA : A ρ1 with _ | a1
          · rw [hA] at h1; cases h1
          · rw [hA] at h1
            cases a1 with
            | r x => cases h1
            | v k x =>
              unfold elC at h1
              dsimp only [Option.bind_some] at h1 ⊢
              split at h1
              · rename_i hl
                rw [if_pos hl, ih, ← Option.some.inj h1]; rfl
              · cases h1
theorem comp_map {α : Type} {inj : α → D} (X : α → D) {xs : List α} (h : ∀ a ∈ xs, elemR j t T A ρ (inj a) = some (some (X a))) : compL t T A j ρ (xs.map inj) = some (xs.map X) := by
  rw [comp_of (g := fun a => some (X a)) h]
  clear h
  congr 1
  induction xs with
  | nil => rfl
  | cons a xs ih => simp [ih]
theorem comp_fm {α : Type} {inj : α → D} (p : α → Bool) (X : α → D) {xs : List α} (h : ∀ a ∈ xs, elemR j t T A ρ (inj a) = some (if p a then some (X a) else none)) : compL t T A j ρ (xs.map inj) = some ((xs.filter p).map X) := by
  rw [comp_of (g := fun a => if p a then some (X a) else none) h]
  congr 1
  clear h
  induction xs with
  | nil => rfl
  | cons a xs ih =>
    rw [List.filterMap_cons]
    cases hp : p a with
    | true => rw [List.filter_cons_of_pos hp]; simp [ih]
    | false => rw [List.filter_cons_of_neg (by rw [hp]; exact Bool.false_ne_true)]; simp [ih]
/-! what a walk goes over -/
theorem rngD_map {lo : Int} {n : Nat} : rngD lo n = (List.range n).map fun i : Nat => D.int (lo + (i : Int)) := rfl
def IN (n : Nat) : D := .int (n : Int)
@[simp] theorem IN_d {n : Nat} : IN n = .int (n : Int) := rfl
@[simp] theorem rngD_0 {n : Nat} : rngD 0 n = (List.range n).map IN := by unfold rngD; simp [IN]
@[simp high] theorem rng_nat {m : Nat} : rngR (some (k, .int (m : Int))) = if m ≤ 1000000000 then some (rngD 0 m) else none := by
  rw [rng_s]
  by_cases h : m ≤ 1000000000
  · rw [if_pos h, if_pos (by omega)]; simp
  · rw [if_neg h, if_neg (by omega)]
def rng2R : Option W → Option W → Option (List D)
  | some (_, .int m), some (_, .int n) => if (-1000000000 ≤ m ∧ m ≤ 1000000000) ∧ -1000000000 ≤ n ∧ n ≤ 1000000000 then some (rngD m (n - m).toNat) else none
  | _, _ => none
@[simp] theorem rng2_s {m n : Int} : rng2R (some (k, .int m)) (some (l, .int n)) = if (-1000000000 ≤ m ∧ m ≤ 1000000000) ∧ -1000000000 ≤ n ∧ n ≤ 1000000000 then some (rngD m (n - m).toNat) else none := (rfl)
@[simp] theorem i_rg2 : iRange2 A B ρ = rng2R (val A ρ) (val B ρ) := by
  unfold iRange2 rng2R
  rcases val A ρ with _ | ⟨k, d⟩
  · rfl
  · rcases val B ρ with _ | ⟨l, c⟩
    · cases d <;> rfl
    · cases d <;> cases c <;> rfl
theorem enum_map {α : Type} {inj : α → D} : ∀ (xs : List α) (n : Nat), enumF n (xs.map inj) = (xs.zipIdx n).map fun p => D.tup [.int (p.2 : Nat), inj p.1]
  | [], _ => rfl
  | a :: xs, n => by
    rw [List.map_cons, List.zipIdx_cons, List.map_cons, ← enum_map xs (n + 1)]
    rfl
theorem zip_map {α β : Type} {f : α → D} {g : β → D} : ∀ (xs : List α) (ys : List β), zipF (xs.map f) (ys.map g) = (xs.zip ys).map fun p => D.tup [f p.1, g p.2]
  | [], _ => rfl
  | a :: xs, [] => rfl
  | a :: xs, b :: ys => by
    rw [List.map_cons, List.map_cons, List.zip_cons_cons, List.map_cons, ← zip_map xs ys]
    rfl
/-! targets -/
@[simp] theorem bindT_n : bindT (.nm i) w ρ = if i < ρ.length then some (ρ.set i (some w)) else none := (rfl)
@[simp] theorem bindT_t {ts : List Tg} {ds : List D} : bindT (.tp ts) (k, .tup ds) ρ = if ds.length = ts.length then bindTs ts ds ρ else none := by
  unfold bindT; rfl
def bindO (ts : List Tg) (ds : List D) : Option Env → Option Env
  | some ρ => bindTs ts ds ρ
  | none => none
@[simp] theorem bindO_s {ts : List Tg} {ds : List D} : bindO ts ds (some ρ) = bindTs ts ds ρ := rfl
@[simp] theorem bindTs_n {ds : List D} : bindTs [] ds ρ = some ρ := by unfold bindTs; rfl
@[simp] theorem bindTs_c {ts : List Tg} {ds : List D} : bindTs (t :: ts) (d :: ds) ρ = bindO ts ds (bindT t (0, d) ρ) := by
  show (bindT t (0, d) ρ).bind _ = _
  cases bindT t (0, d) ρ <;> rfl
def bindPO (f : Fs) (Q : Fl → Env → Prop) : Option Env → Prop
  | some ρ1 => Wp (f ρ1) Q
  | none => False
@[simp] theorem bindPO_s : bindPO f Q (some ρ1) = Wp (f ρ1) Q := rfl
theorem bindP_tp {ts : List Tg} : bindP (.tp ts) f d ρ Q = bindPO f Q (bindT (.tp ts) (0, d) ρ) := by unfold bindP; rfl
def asgT (t : Tg) (Q : Fl → Env → Prop) : Option W → Env → Prop
  | some w, ρ => bindPO bNil Q (bindT t (0, w.2) ρ)
  | none, _ => False
@[simp] theorem asgT_s : asgT t Q (some w) ρ = bindPO bNil Q (bindT t (0, w.2) ρ) := rfl
@[simp] theorem wp_asgT : Wp (sAsgT t A ρ) Q = asgT t Q (val A ρ) ρ := by
  unfold sAsgT asgT
  rcases val A ρ with _ | w
  · simp
  · dsimp only [Option.bind_some]
    cases bindT t (0, w.2) ρ <;> simp [bindPO]
/-! statements -/
@[simp] theorem wp_par {is : List Nat} {B : Fa} : Wp (sPar is B ρ) Q = Wp (parR is (B ρ) ρ) Q := by rw [r_par]
@[simp] theorem par_s {is : List Nat} {as : List Arg} : parR is (some as) ρ = (putAll is as ρ).map fun ρ' => (.nx, ρ') := by
  show (match putAll is as ρ with | some ρ' => some (Fl.nx, ρ') | none => none) = _
  cases putAll is as ρ <;> rfl
@[simp] theorem putAll_n : putAll [] [] ρ = some ρ := rfl
@[simp] theorem putAll_c {is : List Nat} {as : List Arg} : putAll (i :: is) (.v k d :: as) ρ = if i < ρ.length then putAll is as (ρ.set i (some (k, d))) else none := by
  show (putArg i (.v k d) ρ).bind _ = _
  unfold putArg
  by_cases h : i < ρ.length
  · simp [h]
  · simp [h]
def extR (i : Nat) : Option W → Option Arg → Env → Option (Fl × Env)
  | some (1, .lst ds), some (.v _ (.lst cs)), ρ => if ds.length + cs.length ≤ 1000000 then some (.nx, ρ.set i (some (1, .lst (ds ++ cs)))) else none
  | _, _, _ => none
@[simp] theorem ext_s {ds cs : List D} : extR i (some (1, .lst ds)) (some (.v k (.lst cs))) ρ = if ds.length + cs.length ≤ 1000000 then some (.nx, ρ.set i (some (1, .lst (ds ++ cs)))) else none := (rfl)
@[simp] theorem r_ext : sExt i A ρ = extR i (ρ[i]?.join) (A ρ) ρ := by
  unfold sExt
  split
  · rename_i ds h
    rw [h]
    rcases A ρ with _ | a
    · rfl
    · cases a with
      | r x => rfl
      | v k d => cases d <;> rfl
  · rename_i h
    unfold extR
    split
    · rename_i ds _ cs h1 h2
      exact absurd h1 (h ds)
    · rfl
theorem last_q (ds : List D) (d : D) : (ds ++ [d])[(ds ++ [d]).length - 1]? = some d := by simp
def popLP (i : Nat) (t : Tg) (Q : Fl → Env → Prop) (ds : List D) (ρ : Env) : Option D → Prop
  | some d => bindPO bNil Q (bindT t (0, d) (ρ.set i (some (1, .lst ds.dropLast))))
  | none => False
def popTP (i : Nat) (t : Tg) (Q : Fl → Env → Prop) : Option W → Env → Prop
  | some (1, .lst ds), ρ => popLP i t Q ds ρ ds[ds.length - 1]?
  | _, _ => False
theorem popTP_1 {ds : List D} : popTP i t Q (some (1, .lst ds)) ρ = popLP i t Q ds ρ ds[ds.length - 1]? := rfl
@[simp] theorem popTP_s {ds : List D} : popTP i t Q (some (1, .lst (ds ++ [d]))) ρ = bindPO bNil Q (bindT t (0, d) (ρ.set i (some (1, .lst ds)))) := by
  rw [popTP_1, last_q]
  unfold popLP
  rw [List.dropLast_concat]
@[simp] theorem wp_popT : Wp (sPopT i t ρ) Q = popTP i t Q (ρ[i]?.join) ρ := by
  unfold sPopT
  split
  · rename_i ds h
    rw [h, popTP_1]
    cases ds[ds.length - 1]? with
    | none => simp [popLP]
    | some d =>
      dsimp only [Option.bind_some]
      show _ = bindPO bNil Q (bindT t (0, d) (ρ.set i (some (1, .lst ds.dropLast))))
      cases bindT t (0, d) (ρ.set i (some (1, .lst ds.dropLast))) <;> simp [bindPO]
  · rename_i h
    unfold popTP
    split
    · exact absurd ‹_› (h _)
    · simp
def popL (i j : Nat) (Q : Fl → Env → Prop) (ds : List D) (ρ : Env) : Option D → Prop
  | some d => j < ρ.length ∧ Q .nx ((ρ.set i (some (1, .lst ds.dropLast))).set j (some (0, d)))
  | none => False
def popP (i j : Nat) (Q : Fl → Env → Prop) : Option W → Env → Prop
  | some (1, .lst ds), ρ => popL i j Q ds ρ ds[ds.length - 1]?
  | _, _ => False
theorem popP_1 {ds : List D} : popP i j Q (some (1, .lst ds)) ρ = popL i j Q ds ρ ds[ds.length - 1]? := rfl
@[simp] theorem popP_s {ds : List D} : popP i j Q (some (1, .lst (ds ++ [d]))) ρ = (j < ρ.length ∧ Q .nx ((ρ.set i (some (1, .lst ds))).set j (some (0, d)))) := by
  rw [popP_1, last_q]
  unfold popL
  rw [List.dropLast_concat]
@[simp] theorem wp_pop : Wp (sPop i j ρ) Q = popP i j Q (ρ[i]?.join) ρ := by
  unfold sPop
  split
  · rename_i ds h
    rw [h, popP_1]
    cases ds[ds.length - 1]? with
    | none => simp [popL]
    | some d =>
      dsimp only [Option.bind_some]
      unfold popL
      by_cases hj : j < ρ.length
      · simp [hj]
      · simp [hj]
  · rename_i h
    unfold popP
    split
    · exact absurd ‹_› (h _)
    · simp
theorem wp_popIx {m : Nat} {ds : List D} (h : ρ[i]?.join = some (1, .lst (ds ++ [d]))) (h1 : j < ρ.length) (h2 : i ≠ m) (h3 : ρ[m]?.join = some u) (h4 : gIx u (0, d) = some w) (q : Q .nx ((ρ.set i (some (1, .lst ds))).set j (some w))) : Wp (sPopIx i j m ρ) Q := by
  unfold sPopIx
  rw [h]
  show Wp (((ds ++ [d])[(ds ++ [d]).length - 1]?).bind _) Q
  rw [last_q]
  dsimp only [Option.bind_some]
  rw [if_pos h1, if_neg h2, h3]
  dsimp only [Option.bind_some]
  rw [h4, List.dropLast_concat]
  simp only [Option.map_some, wp_some]
  exact q
def augIxP (i : Nat) (g : Int → Int → Int) (Q : Fl → Env → Prop) : Option W → Option W → Option W → Env → Prop
  | some (1, .lst ds), some (_, .int n), some (_, .int m), ρ => ∃ o ds', atI ds n = some (.int o) ∧ setAt ds n (.int (g o m)) = some ds' ∧ Q .nx (ρ.set i (some (1, .lst ds')))
  | _, _, _, _ => False
@[simp] theorem augIxP_s {g : Int → Int → Int} {ds : List D} {n m : Int} : augIxP i g Q (some (1, .lst ds)) (some (k, .int n)) (some (l, .int m)) ρ = ∃ o ds', atI ds n = some (.int o) ∧ setAt ds n (.int (g o m)) = some ds' ∧ Q .nx (ρ.set i (some (1, .lst ds'))) := rfl
theorem wp_augIx {g : Int → Int → Int} {ds ds' : List D} {n m o : Int} (h1 : ρ[i]?.join = some (1, .lst ds)) (h2 : val B ρ = some (k, .int n)) (h3 : val A ρ = some (l, .int m)) (q1 : atI ds n = some (.int o)) (q2 : setAt ds n (.int (g o m)) = some ds')
    (q3 : Q .nx (ρ.set i (some (1, .lst ds')))) : Wp (sAugIx i g B A ρ) Q := by
  unfold sAugIx
  rw [h1]
  dsimp only [Option.bind_some]
  rw [h2]
  dsimp only [Option.bind_some]
  rw [h3]
  dsimp only [Option.bind_some]
  show Wp (match atI ds n, D.int m with
      | some (.int o), .int m => (setAt ds n (.int (g o m))).map fun ds' => (Fl.nx, ρ.set i (some (1, .lst ds')))
      | _, _ => none) Q
  rw [q1]
  dsimp only
  rw [q2]
  simp only [Option.map_some, wp_some]
  exact q3
/-! tables: (range n).map f -/
theorem wp_tab (m : Nat) (F : Nat → D) (I : Nat → Env → Prop) {ds : List D} (hds : ds = (List.range m).map F) (h0 : I 0 ρ) (hs : ∀ (a : Nat) (ρ : Env), a < m → I a ρ → bindP t f (F a) ρ (turnQ (I (a + 1)) Q)) (hQ : ∀ ρ', I m ρ' → Q .nx ρ') : Wp (loopF t f ds ρ) Q := by
  refine wp_for (inj := F) (List.range m) (fun pre => I pre.length) hds h0 (fun pre a post ρ e h => ?_) (fun ρ' h => hQ ρ' (by simpa using h))
  have hp : pre.length = a := by
    have h1 : (List.range m)[pre.length]? = some a := by rw [e]; simp
    obtain ⟨h3, h4⟩ := List.getElem?_eq_some_iff.mp h1
    simpa using h4
  have ha : a < m := by
    have : a ∈ List.range m := by rw [e]; simp
    simpa using this
  rw [List.length_append, hp]
  exact hs a ρ ha (by rw [← hp]; exact h)
theorem enum_tab {n : Nat} {F : Nat → D} : enumF 0 ((List.range n).map F) = (List.range n).map fun i => D.tup [.int (i : Nat), F i] := by
  have key : ∀ (m s : Nat), enumF s ((List.range' s m).map F) = (List.range' s m).map fun i => D.tup [.int (i : Nat), F i] := by
    intro m
    induction m with
    | zero => intro s; rfl
    | succ m ih =>
      intro s
      rw [List.range'_succ, List.map_cons, List.map_cons]
      show _ :: enumF (s + 1) _ = _
      rw [ih (s + 1)]
  rw [List.range_eq_range']
  exact key n 0
theorem zip_same {α : Type} {F G : α → D} : ∀ (xs : List α), zipF (xs.map F) (xs.map G) = xs.map fun a => D.tup [F a, G a]
  | [] => rfl
  | a :: xs => by
    rw [List.map_cons, List.map_cons, List.map_cons, ← zip_same xs]
    rfl
/-! numbers in lists -/
theorem all_flat (xs : List Nat) : ((xs.map IN).all flatD) = true := List.all_eq_true.mpr fun d hd => by obtain ⟨c, _, rfl⟩ := List.mem_map.mp hd; rfl
theorem inF_IN (n : Nat) (xs : List Nat) : inF (.int (n : Int)) (xs.map IN) = decide (n ∈ xs) := by
  unfold inF
  rw [List.any_map]
  rw [Bool.eq_iff_iff]
  simp only [List.any_eq_true, decide_eq_true_eq, Function.comp]
  constructor
  · rintro ⟨x, hx, h⟩
    have h' : (((x : Int)) == ((n : Int))) = true := h
    have h2 : (x : Int) = (n : Int) := by simpa using h'
    have : x = n := by omega
    exact this ▸ hx
  · intro h
    exact ⟨n, h, by show (((n : Int)) == ((n : Int))) = true; simp⟩
@[simp] theorem in_IN {neg : Bool} {n : Nat} {xs : List Nat} : gIn neg (k, .int (n : Int)) (l, .lst (xs.map IN)) = if l ≤ 1 then some (0, .bl (neg != decide (n ∈ xs))) else none := by
  show (if l ≤ 1 ∧ flatD (.int (n : Int)) = true ∧ (xs.map IN).all flatD = true then _ else _) = _
  rw [all_flat, inF_IN]
  by_cases h : l ≤ 1 <;> simp [h, flatD]
@[simp] theorem in_INt {neg : Bool} {n : Nat} {xs : List Nat} : gIn neg (k, .int (n : Int)) (l, .tup (xs.map IN)) = some (0, .bl (neg != decide (n ∈ xs))) := by
  show (if flatD (.int (n : Int)) = true ∧ (xs.map IN).all flatD = true then _ else _) = _
  rw [all_flat, inF_IN]
  simp [flatD]
@[simp] theorem in_k0 {neg : Bool} {n : Int} : gIn neg (k, .int n) (l, .ktp []) = some (0, .bl neg) := by cases neg <;> rfl
theorem clean_IN (xs : List Nat) : cleanD 1 (.lst (xs.map IN)) = true := List.all_eq_true.mpr fun d hd => by obtain ⟨c, _, rfl⟩ := List.mem_map.mp hd; rfl
@[simp] theorem wp_aug {gg : W → W → Option W} : Wp (augR i gg (some u) (some v) ρ) Q = (match gg u v with | some w => i < ρ.length ∧ Q .nx (ρ.set i (some w)) | none => False) := by
  show Wp (match gg u v with | some w => if i < ρ.length then some (Fl.nx, ρ.set i (some w)) else none | none => none) Q = _
  cases gg u v with
  | none => simp
  | some w => simp
end
end Pv
set_option Elab.async false
set_option linter.all false
set_option maxRecDepth 100000
/-! R3: dicts, pairs, equal data -/
namespace Pv
open PySem L2
section
variable {ρ ρ1 : Env} {A B C : Fe} {T U : Fb} {f g : Fs} {i j n k l : Nat} {d c : D} {w u v : W} {t : Tg} {Q : Fl → Env → Prop} {kvs : List (List Key × D)}
def dcO : Option (List (List Key × D)) → Option W
  | some r => some (1, .dct false r)
  | none => none
@[simp] theorem dcO_s : dcO (some kvs) = some (1, .dct false kvs) := rfl
def dcR : Bool → Option (List D) → (List D → Option (List (List Key × D))) → Option W
  | true, some ds, F => if ds.length ≤ 1000000 then dcO (F ds) else none
  | _, _, _ => none
@[simp] theorem dcR_s {ds : List D} {F : List D → Option (List (List Key × D))} : dcR true (some ds) F = if ds.length ≤ 1000000 then dcO (F ds) else none := (rfl)
theorem r_dcV {it : Fit} {vs : List Nat} : pDc it t vs T A B ρ = argR (dcR (vs.all fun v => lvl0 ρ[v]?) (it ρ) (fun ds => compD t T A B (wipeE ρ vs) ds [])) := by
  unfold pDc dcR
  cases vs.all fun v => lvl0 ρ[v]? with
  | false => rfl
  | true =>
    rw [if_pos rfl]
    rcases it ρ with _ | ds
    · rfl
    · show (if ds.length ≤ 1000000 then _ else _) = argR (if ds.length ≤ 1000000 then _ else _)
      by_cases h : ds.length ≤ 1000000
      · rw [if_pos h, if_pos h]
        show _ = argR (dcO (compD t T A B (wipeE ρ vs) ds []))
        unfold dcO argR
        cases compD t T A B (wipeE ρ vs) ds [] <;> rfl
      · rw [if_neg h, if_neg h]; rfl
@[simp] theorem r_dcV' {it : Fit} {vs : List Nat} : pDc it t vs T A B ρ = argR (dcR (vs.all fun v => lvl0 ρ[v]?) (it ρ) (fun ds => compD t T A B (wipeE ρ vs) ds [])) := r_dcV
@[simp] theorem v_dcV {it : Fit} {vs : List Nat} : val (pDc it t vs T A B) ρ = dcR (vs.all fun v => lvl0 ρ[v]?) (it ρ) (fun ds => compD t T A B (wipeE ρ vs) ds []) := val_arg r_dcV
def elD : Option Arg → Option Arg → Option (Key × D)
  | some (.v _ u), some (.v _ x) => (keyK u).map fun κ => (κ, x)
  | _, _ => none
@[simp] theorem elD_i {x : D} {m : Int} : elD (some (.v k (.int m))) (some (.v l x)) = some (.inl m, x) := rfl
@[simp] theorem elD_s {x : D} {m : Str} : elD (some (.v k (.str m))) (some (.v l x)) = some (.inr m, x) := rfl
def elDB (T : Fb) (A B : Fe) : Option Env → Option (Option (Key × D))
  | some ρ1 => (match T ρ1 with | some true => (elD (A ρ1) (B ρ1)).map some | some false => some none | none => none)
  | none => none
theorem elDB_s : elDB T A B (some ρ1) = (match T ρ1 with | some true => (elD (A ρ1) (B ρ1)).map some | some false => some none | none => none) := rfl
theorem valD_app {k : List Key} {x : D} {k' : List Key} : ∀ {kvs : List (List Key × D)}, valD (kvs ++ [(k', x)]) k = (valD kvs k).orElse fun _ => if k' = k then some x else none
  | [] => by unfold valD; by_cases h : k' = k <;> simp [h, valD]
  | p :: r => by
    rw [List.cons_append]
    unfold valD
    by_cases h : p.1 = k
    · rw [if_pos h, if_pos h]; rfl
    · rw [if_neg h, if_neg h, valD_app]
/-- a dict comprehension whose keys are all different -/
theorem compD_map {α : Type} {inj : α → D} (κ : α → Key) (X : α → D) : ∀ {xs : List α} {acc : List (List Key × D)}, (xs.map κ).Nodup → (∀ a ∈ xs, valD acc [κ a] = none) → (∀ a ∈ xs, elDB T A B (bindT t (0, inj a) ρ) = some (some (κ a, X a))) → compD t T A B ρ (xs.map inj) acc = some (acc ++ xs.map fun a => ([κ a], X a))
  | [], acc, _, _, _ => by simp [compD]
  | a :: xs, acc, nd, hv, h => by
    have h1 := h a List.mem_cons_self
    rw [List.map_cons] at nd
    have nd' := List.nodup_cons.mp nd
    rw [List.map_cons]
    show (bindT t (0, inj a) ρ).bind _ = _
    rcases hb : bindT t (0, inj a) ρ with _ | ρ1
    · rw [hb] at h1; cases h1
    · rw [hb, elDB_s] at h1
      dsimp only [Option.bind_some]
      rcases hT : T ρ1 with _ | b
      · rw [hT] at h1; cases h1
      · rw [hT] at h1
        cases b with
        | false => cases h1
        | true =>
          dsimp only [Option.bind_some] at h1 ⊢
          rw [if_pos rfl]
          rcases hA : A ρ1 with _ | a1
          · rw [hA] at h1; cases h1
          · rw [hA] at h1
            cases a1 with
            | r x => cases h1
            | v k u =>
              rcases hB : B ρ1 with _ | b1
              · rw [hB] at h1; cases h1
              · rw [hB] at h1
                cases b1 with
                | r x => cases h1
                | v k2 x =>
                  replace h1 : ((keyK u).map fun κ => (κ, x)).map some = some (some (κ a, X a)) := h1
                  rcases hk : keyK u with _ | κu
                  · rw [hk] at h1; cases h1
                  · rw [hk] at h1
                    cases h1
                    dsimp only [Option.bind_some]
                    rw [hk]
                    dsimp only [Option.bind_some]
                    have hp : putD acc [κ a] (X a) = acc ++ [([κ a], X a)] := by
                      unfold putD
                      rw [hv a List.mem_cons_self]; rfl
                    rw [hp, compD_map κ X nd'.2 (fun b hb => ?_) (fun b hb => h b (List.mem_cons_of_mem _ hb))]
                    · simp
                    · rw [valD_app, hv b (List.mem_cons_of_mem _ hb)]
                      have : ¬ [κ a] = [κ b] := fun z => nd'.1 (by rw [(List.cons.inj z).1]; exact List.mem_map_of_mem hb)
                      simp [this]
@[simp] theorem dget_i {m : Int} : gDGet (k, .dct false kvs) (l, .int m) = if k ≤ 1 then (valD kvs [.inl m]).map fun c => (0, c) else none := (rfl)
@[simp] theorem dget_s {m : Str} : gDGet (k, .dct false kvs) (l, .str m) = if k ≤ 1 then (valD kvs [.inr m]).map fun c => (0, c) else none := (rfl)
@[simp] theorem dget1_i {m : Int} : gDGet1 (k, .dct false kvs) (l, .int m) = if k ≤ 1 then some (0, (valD kvs [.inl m]).getD .non) else none := (rfl)
@[simp] theorem din_i {neg : Bool} {m : Int} : gDIn neg (l, .int m) (k, .dct false kvs) = if k ≤ 1 then some (0, .bl (neg != (valD kvs [.inl m]).isSome)) else none := (rfl)
@[simp] theorem din_s {neg : Bool} {m : Str} : gDIn neg (l, .str m) (k, .dct false kvs) = if k ≤ 1 then some (0, .bl (neg != (valD kvs [.inr m]).isSome)) else none := (rfl)
@[simp] theorem put_i {m : Int} : putR i (some (.v j d)) (some (1, .dct false kvs)) (some (l, .int m)) ρ = if kvs.length < big then some (.nx, ρ.set i (some (1, .dct false (putD kvs [.inl m] d)))) else none := (rfl)
@[simp] theorem put_st {m : Str} : putR i (some (.v j d)) (some (1, .dct false kvs)) (some (l, .str m)) ρ = if kvs.length < big then some (.nx, ρ.set i (some (1, .dct false (putD kvs [.inr m] d)))) else none := (rfl)
@[simp] theorem dnew_s {b : Bool} : pDNew k b ρ = some (.v (k + 1) (.dct b [])) := rfl
/-! list(zip(a, b)) -/
def lzQ : Option (Bool × List D) → Option (Bool × List D) → Option W
  | some p, some q => if min p.2.length q.2.length ≤ 1000000 then some (1, .lst (zipF p.2 q.2)) else none
  | _, _ => none
@[simp] theorem lzQ_s {p q : Bool × List D} : lzQ (some p) (some q) = if min p.2.length q.2.length ≤ 1000000 then some (1, .lst (zipF p.2 q.2)) else none := (rfl)
def lzR : Option Arg → Option Arg → Option W
  | some (.v _ d), some (.v _ c) => lzQ (seqD d) (seqD c)
  | _, _ => none
@[simp] theorem lzR_s : lzR (some (.v j d)) (some (.v k c)) = lzQ (seqD d) (seqD c) := rfl
theorem r_lz : pLstZip A B ρ = argR (lzR (A ρ) (B ρ)) := by
  unfold pLstZip
  rw [a_cn, a_cn, a_nl]
  unfold cR
  rcases A ρ with _ | a
  · rfl
  · rcases B ρ with _ | b
    · cases a <;> rfl
    · cases a with
      | r x => cases b <;> rfl
      | v k d =>
        cases b with
        | r y => rfl
        | v j c =>
          show ((seqD d).bind fun p => (seqD c).bind fun q => if min p.2.length q.2.length ≤ 1000000 then some (Arg.v 1 (.lst (zipF p.2 q.2))) else none) = argR (lzQ (seqD d) (seqD c))
          cases seqD d with
          | none => rfl
          | some p =>
            cases seqD c with
            | none => rfl
            | some q =>
              rw [lzQ_s]
              dsimp only [Option.bind_some]
              by_cases h : min p.2.length q.2.length ≤ 1000000
              · rw [if_pos h, if_pos h]; rfl
              · rw [if_neg h, if_neg h]; rfl
@[simp] theorem r_lz' : pLstZip A B ρ = argR (lzR (A ρ) (B ρ)) := r_lz
@[simp] theorem v_lz : val (pLstZip A B) ρ = lzR (A ρ) (B ρ) := val_arg r_lz
end
/-! equal data -/
mutual
def layD : Nat → D → Bool
  | _, .non => true
  | _, .bl _ => true
  | _, .int _ => true
  | _, .str s => PyData.strOk s
  | n + 1, .tup ds => layDs n ds
  | _, _ => false
def layDs : Nat → List D → Bool
  | _, [] => true
  | n, d :: ds => layD n d && layDs n ds
end
theorem layDs_all {n : Nat} {ds : List D} (h : ∀ d ∈ ds, layD n d = true) : layDs n ds = true := by
  induction ds with
  | nil => cases n <;> rfl
  | cons d ds ih =>
    have : (layD n d && layDs n ds) = true := by rw [h d List.mem_cons_self, ih fun e he => h e (List.mem_cons_of_mem _ he)]; rfl
    cases n <;> exact this
mutual
theorem layD_py : ∀ (n : Nat) (d : D), layD n d = true → ∃ p, toPy d = some p ∧ p.canLay0 = true ∧ p.depth ≤ n ∧ PyData.eqv p p = true
  | n, .non, _ => ⟨.none, rfl, rfl, by simp [PyData.depth], by simp [PyData.eqv]⟩
  | n, .bl b, _ => ⟨.bool b, rfl, rfl, by simp [PyData.depth], by simp [PyData.eqv]⟩
  | n, .int b, _ => ⟨.int b, rfl, rfl, by simp [PyData.depth], by simp [PyData.eqv]⟩
  | n, .str s, h => ⟨.str s, rfl, by cases n <;> exact h, by simp [PyData.depth], by simp [PyData.eqv]⟩
  | n + 1, .tup ds, h => by
    obtain ⟨ps, h1, h2, h3, h4⟩ := layDs_py n ds h
    refine ⟨.tuple ps, by show (toPys ds).map _ = _; rw [h1]; rfl, h2, ?_, ?_⟩
    · show PyData.depthAll ps + 1 ≤ n + 1
      omega
    · simp [PyData.eqv, h4]
  | 0, .tup _, h => by cases h
  | n, .lst _, h => by cases n <;> cases h
  | n, .dct _ _, h => by cases n <;> cases h
  | n, .scr _, h => by cases n <;> cases h
  | n, .ktp _, h => by cases n <;> cases h
theorem layDs_py : ∀ (n : Nat) (ds : List D), layDs n ds = true → ∃ ps, toPys ds = some ps ∧ PyData.canLayAll0 ps = true ∧ PyData.depthAll ps ≤ n ∧ PyData.eqvAll ps ps = true
  | n, [], _ => ⟨[], rfl, rfl, by simp [PyData.depthAll], by simp [PyData.eqvAll]⟩
  | n, d :: ds, h => by
    have h' : (layD n d && layDs n ds) = true := by cases n <;> exact h
    rw [Bool.and_eq_true] at h'
    obtain ⟨p, h1, h2, h3, h4⟩ := layD_py n d h'.1
    obtain ⟨ps, q1, q2, q3, q4⟩ := layDs_py n ds h'.2
    refine ⟨p :: ps, by show (toPy d).bind _ = _; rw [h1]; show (toPys ds).map _ = _; rw [q1]; rfl, ?_, ?_, ?_⟩
    · show (p.canLay0 && PyData.canLayAll0 ps) = true
      rw [h2, q2]; rfl
    · show max p.depth (PyData.depthAll ps) ≤ n
      omega
    · simp [PyData.eqvAll, h4, q4]
end
theorem eq_tup {k l : Nat} {ds : List D} (h : layD 64 (.tup ds) = true) : gEq (k, .tup ds) (l, .tup ds) = some (0, .bl true) ∧ gNe (k, .tup ds) (l, .tup ds) = some (0, .bl false) := by
  obtain ⟨p, h1, h2, h3, h4⟩ := layD_py 64 _ h
  have hs : SeqAt.shaped p = true := by
    unfold SeqAt.shaped
    rw [h2, decide_eq_true h3]; rfl
  have e : gEqD (.tup ds) (.tup ds) = some true := by
    unfold gEqD
    show (toPy (.tup ds)).bind _ = _
    rw [h1]
    show (if _ then _ else _) = _
    rw [if_pos ⟨hs, hs⟩, h4]
  have o1 : eqOk (k, .tup ds) = true := by simp [eqOk]
  have o2 : eqOk (l, .tup ds) = true := by simp [eqOk]
  constructor
  · unfold gEq; rw [o1, o2]; show Option.map _ (gEqD (.tup ds) (.tup ds)) = _; rw [e]; rfl
  · unfold gNe; rw [o1, o2]; show Option.map _ (gEqD (.tup ds) (.tup ds)) = _; rw [e]; rfl
end Pv
set_option Elab.async false
set_option linter.all false
set_option maxRecDepth 100000
/-! R4: x[i] = v, max(.., default), items -/
namespace Pv
open PySem L2
section
variable {ρ ρ1 : Env} {A B C : Fe} {T U : Fb} {f g : Fs} {i j n k l : Nat} {d c : D} {w u v : W} {t : Tg} {Q : Fl → Env → Prop}
def setP (i : Nat) (Q : Fl → Env → Prop) : Option Arg → Option W → Option W → Env → Prop
  | some (.v _ d), some (1, .lst ds), some (_, .int n), ρ => ∃ ds', setAt ds n d = some ds' ∧ Q .nx (ρ.set i (some (1, .lst ds')))
  | _, _, _, _ => False
@[simp] theorem setP_s {ds : List D} {m : Int} : setP i Q (some (.v j d)) (some (1, .lst ds)) (some (k, .int m)) ρ = ∃ ds', setAt ds m d = some ds' ∧ Q .nx (ρ.set i (some (1, .lst ds'))) := rfl
theorem wp_set {ds : List D} {m : Int} (h1 : A ρ = some (.v j d)) (h2 : ρ[i]?.join = some (1, .lst ds)) (h3 : val B ρ = some (k, .int m)) {ds' : List D} (h4 : setAt ds m d = some ds') (q : Q .nx (ρ.set i (some (1, .lst ds')))) : Wp (sSet i B A ρ) Q := by
  rw [r_set h1 h2 h3 h4, wp_some]; exact q
theorem setAt_n {α : Type} {xs : List α} {n : Nat} {v : α} (h : n < xs.length) : setAt xs (n : Int) v = some (xs.set n v) := by
  unfold setAt ixN
  rw [if_pos (by omega), if_pos (by omega)]; simp
@[simp] theorem lstOf_t {ds : List D} : gLstOf (k, .tup ds) = some (1, .lst ds) := rfl
@[simp] theorem lstOf_l {ds : List D} : gLstOf (k, .lst ds) = if k ≤ 1 then some (1, .lst ds) else none := by
  show (itemsD (k, .lst ds)).map _ = _
  unfold itemsD
  by_cases h : k ≤ 1 <;> simp [h]
theorem intsD_map {α : Type} (F : α → Int) : ∀ xs : List α, intsD (xs.map fun a => D.int (F a)) = some (xs.map F)
  | [] => rfl
  | x :: xs => by
    show (intsD (xs.map fun a => D.int (F a))).map _ = _
    rw [intsD_map F xs]; rfl
theorem sum_ints {α : Type} (F : α → Int) (xs : List α) : gSum (1, .lst (xs.map fun a => D.int (F a))) = some (0, .int (xs.map F).sum) := by
  unfold gSum
  show (itemsD (1, .lst _)).bind _ = _
  have : itemsD (1, .lst (xs.map fun a => D.int (F a))) = some (xs.map fun a => D.int (F a)) := by unfold itemsD; simp
  rw [this, Option.bind_some, intsD_map]; rfl
theorem maxDef_ints {α : Type} (F : α → Int) (xs : List α) (d : Int) : gMaxDef (1, .lst (xs.map fun a => D.int (F a))) (k, .int d) = some (0, .int (maxOr d (xs.map F))) := by
  unfold gMaxDef
  rw [ld_l, if_pos (by omega), Option.bind_some, intsD_map]; rfl
end
end Pv
set_option Elab.async false
set_option linter.all false
/-! R5: a list that is overwritten from the left -/
namespace Pv
open PySem L2
@[irreducible] def mix (A B : List D) (q : Nat) : List D := A.take q ++ B.drop q
variable {A B : List D} {q : Nat}
theorem mix_len (h : A.length = B.length) (hq : q ≤ B.length) : (mix A B q).length = B.length := by unfold mix; simp; omega
theorem mix_get (h : A.length = B.length) (hq : q < B.length) : (mix A B q)[q]? = some B[q] := by
  unfold mix
  rw [List.getElem?_append_right (by simp; omega)]
  simp [h, Nat.min_eq_left (Nat.le_of_lt hq), hq]
theorem mix_zero : mix A B 0 = B := by simp [mix]
theorem mix_all (h : A.length = B.length) : mix A B B.length = A := by simp [mix, ← h]
theorem mix_set (h : A.length = B.length) (hq : q < B.length) : (mix A B q).set q (A[q]'(by omega)) = mix A B (q + 1) := by
  unfold mix
  refine List.ext_getElem (by simp; omega) fun i h1 h2 => ?_
  have hi : i < B.length := by simp at h2; omega
  rw [List.getElem_set]
  by_cases e : q = i
  · subst e
    rw [if_pos rfl, List.getElem_append_left (by simp; omega)]; simp
  · rw [if_neg e]
    by_cases q2 : i < q
    · rw [List.getElem_append_left (by simp; omega), List.getElem_append_left (by simp; omega)]; simp
    · rw [List.getElem_append_right (by simp; omega), List.getElem_append_right (by simp; omega)]
      have e1 : min (q + 1) A.length = q + 1 := Nat.min_eq_left (by omega)
      have e2 : min q A.length = q := Nat.min_eq_left (by omega)
      simp [e1, e2]
      congr 1; omega
theorem mix_same (h : A.length = B.length) (hq : q < B.length) (e : A[q]'(by omega) = B[q]) : mix A B (q + 1) = mix A B q := by
  rw [← mix_set h hq, e]
  refine List.ext_getElem (by simp) fun i h1 h2 => ?_
  rw [List.getElem_set]
  by_cases e : q = i
  · subst e
    rw [if_pos rfl]
    have := mix_get h hq
    rw [List.getElem?_eq_getElem h2] at this
    exact (Option.some.inj this).symm
  · rw [if_neg e]
end Pv
set_option Elab.async false
set_option linter.all false
/-! R6: data without bools are equal in the program where they are equal -/
namespace Pv
open PySem L2
mutual
def noBl : D → Bool
  | .non => true
  | .int _ => true
  | .str _ => true
  | .tup ds => noBls ds
  | _ => false
def noBls : List D → Bool
  | [] => true
  | d :: ds => noBl d && noBls ds
end
theorem noBls_all {ds : List D} (h : ∀ d ∈ ds, noBl d = true) : noBls ds = true := by
  induction ds with
  | nil => rfl
  | cons d ds ih => show (noBl d && noBls ds) = true; rw [h d List.mem_cons_self, ih fun e he => h e (List.mem_cons_of_mem _ he)]; rfl
theorem toPy_tup {ds : List D} {p : PyData} (h : toPy (.tup ds) = some p) : ∃ ps, toPys ds = some ps ∧ p = .tuple ps := by
  have h' : (toPys ds).map PyData.tuple = some p := h
  obtain ⟨ps, h1, h2⟩ := Option.map_eq_some_iff.mp h'
  exact ⟨ps, h1, h2.symm⟩
theorem toPys_cons {d : D} {ds : List D} {p : List PyData} (h : toPys (d :: ds) = some p) : ∃ q qs, toPy d = some q ∧ toPys ds = some qs ∧ p = q :: qs := by
  have h' : ((toPy d).bind fun x => (toPys ds).map fun xs => x :: xs) = some p := h
  obtain ⟨q, h1, h2⟩ := Option.bind_eq_some_iff.mp h'
  obtain ⟨qs, h3, h4⟩ := Option.map_eq_some_iff.mp h2
  exact ⟨q, qs, h1, h3, h4.symm⟩
mutual
theorem eqv_iff : ∀ (d e : D) (p q : PyData), noBl d = true → noBl e = true → toPy d = some p → toPy e = some q → (PyData.eqv p q = true ↔ d = e)
  | .non, .non, _, _, _, _, h1, h2 => by cases h1; cases h2; simp [PyData.eqv]
  | .non, .int j, _, _, _, _, h1, h2 => by cases h1; cases h2; simp [PyData.eqv]
  | .non, .str j, _, _, _, _, h1, h2 => by cases h1; cases h2; simp [PyData.eqv]
  | .non, .tup es, _, _, _, _, h1, h2 => by cases h1; obtain ⟨ps, _, rfl⟩ := toPy_tup h2; simp [PyData.eqv]
  | .int i, .non, _, _, _, _, h1, h2 => by cases h1; cases h2; simp [PyData.eqv]
  | .int i, .int j, _, _, _, _, h1, h2 => by cases h1; cases h2; simp [PyData.eqv]
  | .int i, .str j, _, _, _, _, h1, h2 => by cases h1; cases h2; simp [PyData.eqv]
  | .int i, .tup es, _, _, _, _, h1, h2 => by cases h1; obtain ⟨ps, _, rfl⟩ := toPy_tup h2; simp [PyData.eqv]
  | .str i, .non, _, _, _, _, h1, h2 => by cases h1; cases h2; simp [PyData.eqv]
  | .str i, .int j, _, _, _, _, h1, h2 => by cases h1; cases h2; simp [PyData.eqv]
  | .str i, .str j, _, _, _, _, h1, h2 => by cases h1; cases h2; simp [PyData.eqv]
  | .str i, .tup es, _, _, _, _, h1, h2 => by cases h1; obtain ⟨ps, _, rfl⟩ := toPy_tup h2; simp [PyData.eqv]
  | .tup ds, .non, _, _, _, _, h1, h2 => by cases h2; obtain ⟨ps, _, rfl⟩ := toPy_tup h1; simp [PyData.eqv]
  | .tup ds, .int j, _, _, _, _, h1, h2 => by cases h2; obtain ⟨ps, _, rfl⟩ := toPy_tup h1; simp [PyData.eqv]
  | .tup ds, .str j, _, _, _, _, h1, h2 => by cases h2; obtain ⟨ps, _, rfl⟩ := toPy_tup h1; simp [PyData.eqv]
  | .tup ds, .tup es, _, _, n1, n2, h1, h2 => by
    obtain ⟨ps, k1, rfl⟩ := toPy_tup h1
    obtain ⟨qs, k2, rfl⟩ := toPy_tup h2
    have := eqvs_iff ds es ps qs n1 n2 k1 k2
    simp [PyData.eqv, this]
  | .bl _, _, _, _, n1, _, _, _ => by cases n1
  | .lst _, _, _, _, n1, _, _, _ => by cases n1
  | .dct _ _, _, _, _, n1, _, _, _ => by cases n1
  | .scr _, _, _, _, n1, _, _, _ => by cases n1
  | .ktp _, _, _, _, n1, _, _, _ => by cases n1
  | .non, .bl _, _, _, _, n1, _, _ => by cases n1
  | .non, .lst _, _, _, _, n1, _, _ => by cases n1
  | .non, .dct _ _, _, _, _, n1, _, _ => by cases n1
  | .non, .scr _, _, _, _, n1, _, _ => by cases n1
  | .non, .ktp _, _, _, _, n1, _, _ => by cases n1
  | .int _, .bl _, _, _, _, n1, _, _ => by cases n1
  | .int _, .lst _, _, _, _, n1, _, _ => by cases n1
  | .int _, .dct _ _, _, _, _, n1, _, _ => by cases n1
  | .int _, .scr _, _, _, _, n1, _, _ => by cases n1
  | .int _, .ktp _, _, _, _, n1, _, _ => by cases n1
  | .str _, .bl _, _, _, _, n1, _, _ => by cases n1
  | .str _, .lst _, _, _, _, n1, _, _ => by cases n1
  | .str _, .dct _ _, _, _, _, n1, _, _ => by cases n1
  | .str _, .scr _, _, _, _, n1, _, _ => by cases n1
  | .str _, .ktp _, _, _, _, n1, _, _ => by cases n1
  | .tup _, .bl _, _, _, _, n1, _, _ => by cases n1
  | .tup _, .lst _, _, _, _, n1, _, _ => by cases n1
  | .tup _, .dct _ _, _, _, _, n1, _, _ => by cases n1
  | .tup _, .scr _, _, _, _, n1, _, _ => by cases n1
  | .tup _, .ktp _, _, _, _, n1, _, _ => by cases n1
theorem eqvs_iff : ∀ (d e : List D) (p q : List PyData), noBls d = true → noBls e = true → toPys d = some p → toPys e = some q → (PyData.eqvAll p q = true ↔ d = e)
  | [], [], _, _, _, _, h1, h2 => by cases h1; cases h2; simp [PyData.eqvAll]
  | [], e :: es, _, _, _, _, h1, h2 => by cases h1; obtain ⟨a, as, _, _, rfl⟩ := toPys_cons h2; simp [PyData.eqvAll]
  | d :: ds, [], _, _, _, _, h1, h2 => by cases h2; obtain ⟨a, as, _, _, rfl⟩ := toPys_cons h1; simp [PyData.eqvAll]
  | d :: ds, e :: es, _, _, n1, n2, h1, h2 => by
    obtain ⟨a, as, a1, a2, rfl⟩ := toPys_cons h1
    obtain ⟨b, bs, b1, b2, rfl⟩ := toPys_cons h2
    have n1' : (noBl d && noBls ds) = true := n1
    have n2' : (noBl e && noBls es) = true := n2
    rw [Bool.and_eq_true] at n1' n2'
    have k1 := eqv_iff d e a b n1'.1 n2'.1 a1 b1
    have k2 := eqvs_iff ds es as bs n1'.2 n2'.2 a2 b2
    simp [PyData.eqvAll, k1, k2]
end
theorem eq_dec {k l : Nat} {ds es : List D} (h : layD 64 (.tup ds) = true) (h' : layD 64 (.tup es) = true) (n : noBls ds = true) (n' : noBls es = true) :
    ∃ b : Bool, (b = true ↔ ds = es) ∧ gEq (k, .tup ds) (l, .tup es) = some (0, .bl b) ∧ gNe (k, .tup ds) (l, .tup es) = some (0, .bl (!b)) := by
  obtain ⟨p, h1, h2, h3, h4⟩ := layD_py 64 _ h
  obtain ⟨q, j1, j2, j3, j4⟩ := layD_py 64 _ h'
  have hs : SeqAt.shaped p = true := by
    unfold SeqAt.shaped
    rw [h2, decide_eq_true h3]; rfl
  have hs' : SeqAt.shaped q = true := by
    unfold SeqAt.shaped
    rw [j2, decide_eq_true j3]; rfl
  have e : gEqD (.tup ds) (.tup es) = some (PyData.eqv p q) := by
    unfold gEqD
    show (toPy (.tup ds)).bind _ = _
    rw [h1]
    show (toPy (.tup es)).bind _ = _
    rw [j1]
    show (if _ then _ else _) = _
    rw [if_pos ⟨hs, hs'⟩]
  have o1 : eqOk (k, .tup ds) = true := by simp [eqOk]
  have o2 : eqOk (l, .tup es) = true := by simp [eqOk]
  refine ⟨PyData.eqv p q, ?_, ?_, ?_⟩
  · rw [eqv_iff (.tup ds) (.tup es) p q n n' h1 j1]; simp
  · unfold gEq; rw [o1, o2]; show Option.map _ (gEqD (.tup ds) (.tup es)) = _; rw [e]; rfl
  · unfold gNe; rw [o1, o2]; show Option.map _ (gEqD (.tup ds) (.tup es)) = _; rw [e]; rfl
end Pv
set_option Elab.async false
set_option linter.all false
set_option maxRecDepth 100000
/-! R7: sorted pairs of ints; slices; sums -/
namespace Pv
open PySem L2
def prD (p : Nat × Nat) : D := .tup [.int (p.1 : Int), .int (p.2 : Int)]
def lePr (p q : Nat × Nat) : Bool := decide (p.1 < q.1 ∨ (p.1 = q.1 ∧ p.2 ≤ q.2))
theorem leD_pr (p q : Nat × Nat) : leD (prD p) (prD q) = lePr p q := by
  have h : leD (prD p) (prD q) = !(PyProof.Rows.lexLt PyProof.Rows.itemOrd [.inl 1, .inl (q.1 : Int), .inl 1, .inl (q.2 : Int), .inl 0] [.inl 1, .inl (p.1 : Int), .inl 1, .inl (p.2 : Int), .inl 0]) := rfl
  have e : PyProof.Rows.lexLt PyProof.Rows.itemOrd [.inl 1, .inl (q.1 : Int), .inl 1, .inl (q.2 : Int), .inl 0] [.inl 1, .inl (p.1 : Int), .inl 1, .inl (p.2 : Int), .inl 0] = (decide ((1 : Int) < 1) || (!decide ((1 : Int) < 1) && (decide ((q.1 : Int) < p.1) || (!decide ((p.1 : Int) < q.1) && (decide ((1 : Int) < 1) || (!decide ((1 : Int) < 1) && (decide ((q.2 : Int) < p.2) || (!decide ((p.2 : Int) < q.2) && (decide ((0 : Int) < 0) || (!decide ((0 : Int) < 0) && false)))))))))) := rfl
  rw [h, e]
  unfold lePr
  rw [Bool.eq_iff_iff]
  simp
  omega
theorem lePr_trans (a b c : Nat × Nat) (h1 : lePr a b = true) (h2 : lePr b c = true) : lePr a c = true := by
  unfold lePr at *
  simp at *
  omega
theorem lePr_total (a b : Nat × Nat) : (lePr a b || lePr b a) = true := by
  unfold lePr
  simp
  omega
theorem toPys_pr : ∀ xs : List (Nat × Nat), toPys (xs.map prD) = some (xs.map fun p : Nat × Nat => PyData.tuple [.int (p.1 : Int), .int (p.2 : Int)])
  | [] => rfl
  | x :: xs => by
    show (toPy (prD x)).bind _ = _
    have : toPy (prD x) = some (.tuple [.int (x.1 : Int), .int (x.2 : Int)]) := rfl
    rw [this]
    show (toPys (xs.map prD)).map _ = _
    rw [toPys_pr xs]; rfl
theorem okSort_pr (xs : List (Nat × Nat)) : okSort (xs.map fun p : Nat × Nat => PyData.tuple [.int (p.1 : Int), .int (p.2 : Int)]) = true := by
  unfold okSort
  rw [Bool.and_eq_true]
  refine ⟨List.all_eq_true.mpr fun p hp => ?_, ?_⟩
  · obtain ⟨x, _, rfl⟩ := List.mem_map.mp hp
    rw [Bool.and_eq_true]
    refine ⟨decide_eq_true (by simp [PyData.depth, PyData.depthAll]), List.all_eq_true.mpr fun q hq => ?_⟩
    obtain ⟨y, _, rfl⟩ := List.mem_map.mp hq
    rfl
  · rw [Bool.or_eq_true]
    refine .inl (List.all_eq_true.mpr fun q hq => ?_)
    obtain ⟨y, _, rfl⟩ := List.mem_map.mp hq
    rfl
theorem sorted_pr {k : Nat} {xs : List (Nat × Nat)} (hk : k ≤ 1) (hl : xs.length ≤ 1000000) : gSorted (k, .lst (xs.map prD)) = some (1, .lst ((xs.mergeSort lePr).map prD)) := by
  unfold gSorted
  rw [ld_l, if_pos hk]
  show sortD (xs.map prD) = _
  unfold sortD
  rw [toPys_pr]
  show (if okSort (xs.map fun p : Nat × Nat => PyData.tuple [.int (p.1 : Int), .int (p.2 : Int)]) = true ∧ (xs.map prD).length ≤ big then some (1, D.lst ((xs.map prD).mergeSort leD)) else none) = _
  rw [if_pos ⟨okSort_pr xs, by simpa [big] using hl⟩]
  congr 3
  rw [List.map_mergeSort (r := lePr) (s := leD) (f := prD) fun a _ b _ => (leD_pr a b).symm]
/-- the first of a sorted list is the least -/
theorem sorted_head {xs : List (Nat × Nat)} {p : Nat × Nat} {r : List (Nat × Nat)} (h : xs.mergeSort lePr = p :: r) : p ∈ xs ∧ ∀ q ∈ xs, lePr p q = true := by
  have hs := List.pairwise_mergeSort lePr_trans lePr_total xs
  rw [h] at hs
  have hp : ∀ q, q ∈ p :: r ↔ q ∈ xs := fun q => by rw [← h]; exact List.mem_mergeSort
  refine ⟨(hp p).mp List.mem_cons_self, fun q hq => ?_⟩
  rcases List.mem_cons.mp ((hp q).mpr hq) with rfl | z
  · have := lePr_total q q; simpa using this
  · exact (List.pairwise_cons.mp hs).1 q z
theorem sum_cast {α : Type} (f : α → Nat) : ∀ xs : List α, (xs.map fun a => (f a : Int)).sum = (((xs.map f).sum : Nat) : Int)
  | [] => rfl
  | x :: xs => by
    rw [List.map_cons, List.map_cons, List.sum_cons, List.sum_cons, sum_cast f xs]; omega
end Pv
set_option Elab.async false
set_option linter.all false
set_option maxRecDepth 100000
/-! C1: what all laws have: the row, like -/
namespace CL
open PySem L2 Pv
def b_law_mixed : Fs := bSeq (sAsg 2 (pC (.int 0))) (bSeq (sIf (bVal (pOp2 (gCmpI fun i j => decide (j < i)) (pCall (on1 gLen) (aCons (pBv 0) aNil)) (pC (.int 0)))) (sAsg 2 (pOp2 gIx (pBv 0) (pOp2 gMod (pBv 1) (pCall (on1 gLen) (aCons (pBv 0) aNil))))) bNil) (bSeq (sAsg 3 (pOp2 gMod (pCall (on1 gInt) (aCons (pOp2 gAdd (pOp2 gAdd (pOp2 gMulI (pBv 2) (pC (.int 48271))) (pOp2 gMulI (pBv 1) (pC (.int 69621)))) (pC (.int 8191))) aNil)) (pC (.int 2147483647)))) (bSeq (sAsg 4 (pOp2 gMod (pCall (on1 gInt) (aCons (pOp2 gAdd (pOp2 gAdd (pOp2 gMulI (pBv 3) (pBv 3)) (pOp2 gFdiv (pBv 3) (pC (.int 7)))) (pOp2 gMulI (pBv 1) (pC (.int 16807)))) aNil)) (pC (.int 2147483629)))) (bSeq (sAsg 5 (pOp2 gMod (pCall (on1 gInt) (aCons (pOp2 gAdd (pOp2 gAdd (pOp2 gMulI (pBv 4) (pBv 4)) (pOp2 gFdiv (pBv 4) (pC (.int 11)))) (pC (.int 40692))) aNil)) (pC (.int 2147483563)))) (sRet (pOp2 gMod (pOp2 gFdiv (pBv 5) (pC (.int 5))) (pC (.int 1000003))))))))
def m_law_mixed : List D → Option W := mkM 6 2 b_law_mixed
def b_law_row : Fs := bSeq (sAsg 2 (pC (.int 0))) (bSeq (sIf (bAnd (bVal (pOp2 (gCmpI fun i j => decide (j < i)) (pCall (on1 gLen) (aCons (pBv 0) aNil)) (pC (.int 0)))) (bVal (pOp2 (gCmpI fun i j => decide (j ≤ i)) (pOp2 gIx (pBv 0) (pC (.int 0))) (pOp2 gPow (pC (.int 10)) (pC (.int 18)))))) (sAsg 2 (pOp2 gIx (pBv 0) (pC (.int 0)))) bNil) (bSeq (sAsg 3 (pLst aNil)) (bSeq (sFor (iRange1 (pBv 1)) (.nm 4) (sIf (bVal (pOp2 (gCmpI fun i j => decide (j < i)) (pBv 2) (pC (.int 0)))) (bSeq (sApp 3 (pOp2 gMod (pCall (on1 gInt) (aCons (pBv 2) aNil)) (pC (.int 1000)))) (sAsg 2 (pOp2 gFdiv (pBv 2) (pC (.int 1000))))) (sApp 3 (pFn m_law_mixed [] (aCons (pBv 0) (aCons (pBv 4) aNil)))))) (sRet (pBv 3)))))
def m_law_row : List D → Option W := mkM 5 2 b_law_row
def b_law_is_int : Fs := sRet (pAnd (pIsi .int (pBv 0)) (pNot (pIsi .bl (pBv 0))))
def m_law_is_int : List D → Option W := mkM 1 1 b_law_is_int
def b_law_like (m : List D → Option W) : Fs := bSeq (sIf (bVal (pOp2 gIsN (pBv 1) (pC .non))) (sRet (pOp2 gIsN (pBv 0) (pC .non))) bNil) (bSeq (sIf (bVal (pIsi .bl (pBv 1))) (sRet (pAnd (pIsi .bl (pBv 0)) (pOp2 gEq (pBv 0) (pBv 1)))) bNil) (bSeq (sIf (bVal (pIsi .tup (pBv 1))) (bSeq (sIf (bOr (bNot (bVal (pIsi .tup (pBv 0)))) (bVal (pOp2 gNe (pCall (on1 gLen) (aCons (pBv 0) aNil)) (pCall (on1 gLen) (aCons (pBv 1) aNil))))) (sRet (pC (.bl false))) bNil) (sRet (pCall (on1 gAll) (aCons (pLc 0 (iRange1 (pCall (on1 gLen) (aCons (pBv 1) aNil))) (.nm 2) [2] bYes (pFn m [] (aCons (pOp2 gIx (pBv 0) (pBv 2)) (aCons (pOp2 gIx (pBv 1) (pBv 2)) aNil)))) aNil)))) bNil) (bSeq (sIf (bVal (pIsi .str (pBv 1))) (sRet (pAnd (pIsi .str (pBv 0)) (pOp2 gEq (pBv 0) (pBv 1)))) bNil) (sRet (pAnd (pFn m_law_is_int [] (aCons (pBv 0) aNil)) (pOp2 gEq (pBv 0) (pBv 1)))))))
def r_law_like : Nat → List D → Option W
  | 0 => fun _ => none
  | n + 1 => mkM 3 2 (b_law_like (r_law_like n))
def m_law_like : List D → Option W := r_law_like 6
theorem m0 (m : Int) (h : 0 < m) (x : Int) : ∃ c : Nat, x % m = c ∧ (c : Int) < m := ⟨(x % m).toNat, by have := Int.emod_nonneg x (show m ≠ 0 by omega); omega, by have := Int.emod_nonneg x (show m ≠ 0 by omega); have := Int.emod_lt_of_pos x h; omega⟩
theorem mixed (ns : List Int) (k : Int) (hk : 0 ≤ k) : ∃ c : Nat, m_law_mixed [.scr ns, .int k] = some (0, .int c) := by
  have key : ∃ w, m_law_mixed [.scr ns, .int k] = some w ∧ ∃ c : Nat, w = (0, .int c) := by
    refine def_ex _ rfl (fun w ⟨c, h⟩ => by subst h; rfl) fun Q hQ => ?_
    unfold b_law_mixed
    by_cases h : 0 < ns.length
    · have hn : 0 ≤ k % (ns.length : Int) := Int.emod_nonneg _ (by omega)
      have hl : k % (ns.length : Int) < ns.length := Int.emod_lt_of_pos _ (by omega)
      obtain ⟨j, hj⟩ := Int.eq_ofNat_of_zero_le hn
      have hj2 : j < ns.length := by omega
      simp [h, hj, hj2]
      obtain ⟨a, ha, ha2⟩ := m0 2147483647 (by omega) (ns[j] * 48271 + k * 69621 + 8191)
      rw [ha]
      rw [if_pos (by omega)]
      simp
      obtain ⟨b, hb, hb2⟩ := m0 2147483629 (by omega) ((a : Int) * a + a / 7 + k * 16807)
      rw [hb]
      rw [if_pos (by omega)]
      simp
      obtain ⟨c, hc, _⟩ := m0 1000003 (by omega) (((b : Int) * b + b / 11 + 40692) % 2147483563 / 5)
      rw [hc]
      exact hQ _ _ ⟨c, rfl⟩
    · simp [h]
      obtain ⟨a, ha, ha2⟩ := m0 2147483647 (by omega) (k * 69621 + 8191)
      rw [ha]
      rw [if_pos (by omega)]
      simp
      obtain ⟨b, hb, hb2⟩ := m0 2147483629 (by omega) ((a : Int) * a + a / 7 + k * 16807)
      rw [hb]
      rw [if_pos (by omega)]
      simp
      obtain ⟨c, hc, _⟩ := m0 1000003 (by omega) (((b : Int) * b + b / 11 + 40692) % 2147483563 / 5)
      rw [hc]
      exact hQ _ _ ⟨c, rfl⟩
  obtain ⟨w, h1, c, h2⟩ := key
  exact ⟨c, by rw [h1, h2]⟩
theorem row0 (ns : List Int) (n : Nat) (hn : n ≤ 1000) : ∃ cs : List Nat, cs.length = n ∧ m_law_row [.scr ns, .int n] = some (1, .lst (cs.map IN)) := by
  have key : ∃ w, m_law_row [.scr ns, .int n] = some w ∧ ∃ cs : List Nat, cs.length = n ∧ w = (1, .lst (cs.map IN)) := by
    refine def_ex _ rfl (fun w ⟨cs, h1, h⟩ => by
      subst h
      show (cs.map IN).all (cleanD 0) = true
      exact List.all_eq_true.mpr fun d hd => by obtain ⟨c, _, rfl⟩ := List.mem_map.mp hd; rfl) fun Q hQ => ?_
    unfold b_law_row
    have hp : gPow (0, D.int 10) (0, D.int 18) = some (0, D.int 1000000000000000000) := by simp [gPow]
    have hn' : n ≤ 1000000000 := by omega
    have fin : ∀ big : Int, 0 ≤ big → Wp (loopF (.nm 4) (sIf (bVal (pOp2 (gCmpI fun i j => decide (j < i)) (pBv 2) (pC (.int 0)))) (bSeq (sApp 3 (pOp2 gMod (pCall (on1 gInt) (aCons (pBv 2) aNil)) (pC (.int 1000)))) (sAsg 2 (pOp2 gFdiv (pBv 2) (pC (.int 1000))))) (sApp 3 (pFn m_law_mixed [] (aCons (pBv 0) (aCons (pBv 4) aNil))))) ((List.range n).map IN) [some (0, .scr ns), some (0, .int n), some (0, .int big), some (1, .lst []), none]) (thenQ (sRet (pBv 3)) Q) := by
      intro big hb0
      obtain ⟨big, rfl⟩ := Int.eq_ofNat_of_zero_le hb0
      refine wp_range n (fun a ρ => ∃ (big : Nat) (cs : List Nat) (x : Option W), cs.length = a ∧ ρ = [some (0, .scr ns), some (0, .int n), some (0, .int big), some (1, .lst (cs.map IN)), x]) (by simp) ⟨big, [], none, rfl, rfl⟩ ?_ ?_
      · rintro a ρ ha ⟨big, cs, x, h1, rfl⟩
        by_cases hb : 0 < big
        · have hb' : (0 : Int) < (big : Int) := by omega
          simp [hb, hb', Pv.big]
          refine ⟨by omega, big / 1000, cs ++ [big % 1000], by simp [h1], by omega, ?_⟩
          simp [IN]
        · obtain ⟨c, hc⟩ := mixed ns a (by omega)
          have hb' : ¬ (0 : Int) < (big : Int) := by omega
          simp [hb, hb', hc, Pv.big]
          refine ⟨by omega, big, cs ++ [c], by simp [h1], rfl, ?_⟩
          simp [IN]
      · rintro ρ ⟨big, cs, x, h1, rfl⟩
        simp
        exact hQ _ _ ⟨cs, h1, rfl⟩
    by_cases h : 0 < ns.length
    · by_cases h2 : (1000000000000000000 : Int) ≤ ns[0]
      · simp [h, h2, hp, hn']
        exact fin ns[0] (by omega)
      · simp [h, h2, hp, hn']
        exact fin 0 (by omega)
    · simp [h, hn']
      exact fin 0 (by omega)
  obtain ⟨w, h1, cs, h2, h3⟩ := key
  exact ⟨cs, h2, by rw [h1, h3]⟩
/-- THE ROW: numbers of its own -/
theorem row (ns : List Int) (n : Nat) (hn : n ≤ 1000) : ∃ r : Nat → Nat, m_law_row [.scr ns, .int n] = some (1, .lst ((List.range n).map fun i => IN (r i))) := by
  obtain ⟨cs, h1, h2⟩ := row0 ns n hn
  refine ⟨fun i => cs.getD i 0, ?_⟩
  rw [h2]
  congr 3
  refine List.ext_getElem (by simp [h1]) fun i q1 q2 => ?_
  have : i < cs.length := by simpa using q1
  simp [this]
/-! like -/
def likeOk : Nat → D → Bool
  | _, .int _ => true
  | _, .str _ => true
  | _, .bl _ => true
  | _, .non => true
  | n + 1, .tup ds => decide (ds.length ≤ 1000) && ds.all (likeOk n)
  | _, _ => false
@[simp] theorem is_int_int (i : Int) : m_law_is_int [.int i] = some (0, .bl true) := by rfl
theorem blsD_true {α : Type} : ∀ l : List α, blsD (l.map fun _ => D.bl true) = some (l.map fun _ => true)
  | [] => rfl
  | a :: l => by
    show (blsD (l.map fun _ => D.bl true)).map _ = _
    rw [blsD_true l]; rfl
theorem like_refl : ∀ (n : Nat) (x : D), likeOk n x = true → r_law_like (n + 1) [x, x] = some (0, .bl true)
  | n, .int i, _ => def_of rfl rfl fun Q hQ => by
    unfold b_law_like
    simp
    exact hQ _
  | n, .str i, _ => def_of rfl rfl fun Q hQ => by
    unfold b_law_like
    simp
    exact hQ _
  | n, .bl i, _ => def_of rfl rfl fun Q hQ => by
    unfold b_law_like
    simp
    exact hQ _
  | n, .non, _ => def_of rfl rfl fun Q hQ => by
    unfold b_law_like
    simp
    exact hQ _
  | 0, .tup ds, h => by cases h
  | n + 1, .tup ds, h => def_of rfl rfl fun Q hQ => by
    have h' : (decide (ds.length ≤ 1000) && ds.all (likeOk n)) = true := h
    rw [Bool.and_eq_true] at h'
    have hl : ds.length ≤ 1000 := of_decide_eq_true h'.1
    have hl2 : ds.length ≤ 1000000 := by omega
    have hl3 : ds.length ≤ 1000000000 := by omega
    unfold b_law_like
    simp [hl2, hl3]
    rw [comp_map (fun _ : Nat => D.bl true)]
    · have e : ((List.range ds.length).all fun x => true) = true := List.all_eq_true.mpr fun _ _ => rfl
      simp [gAll, blsD_true, e]
      exact hQ _
    · intro a ha
      have ha' : a < ds.length := List.mem_range.mp ha
      have ih := like_refl n ds[a] (List.all_eq_true.mp h'.2 _ (List.getElem_mem ha'))
      simp [ha', ih]
  | _, .lst _, h => by cases ‹Nat› <;> cases h
  | _, .dct _ _, h => by cases ‹Nat› <;> cases h
  | _, .scr _, h => by cases ‹Nat› <;> cases h
  | _, .ktp _, h => by cases ‹Nat› <;> cases h
theorem like (x : D) (h : likeOk 5 x = true) : m_law_like [x, x] = some (0, .bl true) := like_refl 5 x h
end CL
set_option Elab.async false
set_option linter.all false
set_option maxRecDepth 100000
/-! P33: sets of keys of one kind, made of a list or a tuple -/
namespace L2
open PySem PySem.Spec PyProof.Rows PySem.W
theorem each_perm {α β : Type} {R : α → β → Prop} {xs' xs : List α} (p : xs'.Perm xs) : ∀ {ys : List β}, EachIs R xs ys → ∃ ys', EachIs R xs' ys' ∧ ys'.Perm ys := by
  induction p with
  | nil => intro ys h; cases h; exact ⟨[], .nil, .nil⟩
  | cons x _ ih =>
    intro ys h
    cases h with
    | cons h1 h2 =>
      obtain ⟨ys', e, q⟩ := ih h2
      exact ⟨_ :: ys', .cons h1 e, q.cons _⟩
  | swap x y l =>
    intro ys h
    cases h with
    | cons h1 h2 =>
      cases h2 with
      | cons h3 h4 => exact ⟨_, .cons h3 (.cons h1 h4), .swap _ _ _⟩
  | trans _ _ ih1 ih2 =>
    intro ys h
    obtain ⟨y1, e1, q1⟩ := ih2 h
    obtain ⟨y2, e2, q2⟩ := ih1 e1
    exact ⟨y2, e2, q2.trans q1⟩
theorem each_mem_r {α β : Type} {R : α → β → Prop} : ∀ {xs : List α} {ys : List β}, EachIs R xs ys → ∀ y ∈ ys, ∃ x ∈ xs, R x y
  | _, _, .nil, y, h => by cases h
  | _, _, .cons h1 h2, y, h => by
    rcases List.mem_cons.mp h with rfl | h
    · exact ⟨_, List.mem_cons_self, h1⟩
    · obtain ⟨x, hx, r⟩ := each_mem_r h2 y h
      exact ⟨x, List.mem_cons_of_mem _ hx, r⟩
theorem each_mem_l {α β : Type} {R : α → β → Prop} : ∀ {xs : List α} {ys : List β}, EachIs R xs ys → ∀ x ∈ xs, ∃ y ∈ ys, R x y
  | _, _, .nil, y, h => by cases h
  | _, _, .cons h1 h2, y, h => by
    rcases List.mem_cons.mp h with rfl | h
    · exact ⟨_, List.mem_cons_self, h1⟩
    · obtain ⟨x, hx, r⟩ := each_mem_l h2 y h
      exact ⟨x, List.mem_cons_of_mem _ hx, r⟩
section
variable {P : Program} {w : World} {A : Around} {E : Value → Shared → Prop} {s : Shared} {K : Type} [DecidableEq K] {knd : KeyKind P w K} {h h' : Heap} {a : Addr} {l : List K}
/-- a set at a that holds the keys l, each once -/
def SetG (knd : KeyKind P w K) (h : Heap) (a : Addr) (l : List K) : Prop :=
  ∃ o es ep t, h.get? a = some o ∧ o.ExactSet ∧ o.data = .set es ep t ∧ ElemsOf knd es.toList ∧ EachIs (fun e k => knd.is k e.2 = true) es.toList l ∧ l.Nodup ∧ es.size < scanBound ∧ t.fits es.size = true ∧ Ris t.place.toList ∧ (w.params.followText "set-order" = true ∨ t.led = true)
theorem SetG.at (R : SetG knd h a l) (k : ∀ o, h.get? a = some o → h'.get? a = some o) : SetG knd h' a l := by
  obtain ⟨o, es, ep, t, ho, r⟩ := R
  exact ⟨o, es, ep, t, k o ho, r⟩
theorem setG_tail {g : Bool → Sem Unit} (hg : ∀ (b : Bool) (s₁ : Shared) (Q' : Unit → Shared → Prop), Q' () s₁ → wpAny (model P w) A (g b) Q' E s₁)
    {o : Obj} {es : Array (Int × Value)} {ep : Nat} {t : SetTable} (ho : s.heap.get? a = some o) (hex : o.ExactSet) (hd : o.data = .set es ep t)
    {es1 : Array (Int × Value)} {t2 : SetTable} (el : ElemsOf knd es1.toList) (ea : EachIs (fun e k => knd.is k e.2 = true) es1.toList l) (nd : l.Nodup)
    (hb1 : es1.size < scanBound) (hf2 : t2.fits es1.size = true) (hr : Ris t2.place.toList) (hl : w.params.followText "set-order" = true ∨ t2.led = true) {wasDummy : Bool} {R : Option Bool → Shared → Prop}
    (hR : ∀ h' l', Heap.SameBut a s.heap h' → l'.Perm l → SetG knd h' a l' → R (some true) { s with heap := h' }) :
    wpAny (model P w) A (do
        storeSet a es1 t2
        if (!wasDummy && t2.tooFull) = true then do
            g (relayAll t2 es1 (SetTable.grown es1.size)).2.2
            storeSet a (relayAll t2 es1 (SetTable.grown es1.size)).1 (relayAll t2 es1 (SetTable.grown es1.size)).2.1
            pure (some true)
          else pure (some true)) R E s := by
  refine wpAny_bind (wpAny_storeSet_of ho hd ?_ (fits_of_scanBound hb1))
  have ho1 := store_at (es' := es1) (t' := t2) ho hd
  have sb1 := Heap.SameBut.update s.heap a (Obj.putSet es1 t2)
  split
  · have pm := relayAll_perm t2 es1 (SetTable.grown es1.size)
    have hf3 := relayAll_fits t2 es1 (SetTable.grown es1.size)
    have hr3 := relayAll_ris t2 es1 (SetTable.grown es1.size)
    have hl3 := relayAll_led t2 es1 (SetTable.grown es1.size)
    generalize relayAll t2 es1 (SetTable.grown es1.size) = Z at pm hf3 hr3 hl3 ⊢
    obtain ⟨es2, t3, gave⟩ := Z
    dsimp only at pm hf3 hr3 hl3 ⊢
    have hsz : es2.size = es1.size := by rw [← Array.length_toList, pm.length_eq, Array.length_toList]
    have hb2 : es2.size < scanBound := by rw [hsz]; exact hb1
    refine wpAny_bind (hg _ _ _ ?_)
    refine wpAny_bind (wpAny_storeSet_of ho1 rfl ?_ (fits_of_scanBound hb2))
    have ho2 := store_at (es' := es2) (t' := t3) ho1 rfl
    obtain ⟨l', ea', pl⟩ := each_perm pm ea
    refine wpAny_pure (hR _ l' (sb1.trans (Heap.SameBut.update _ a _)) pl ?_)
    exact ⟨_, es2, _, t3, ho2, hex, rfl, el.perm pm, ea', pl.nodup_iff.mpr nd, hb2, hf3, hr3, hl.imp id fun z => by rw [hl3]; exact z⟩
  · exact wpAny_pure (hR _ l sb1 (.refl _) ⟨_, es1, _, t2, ho1, hex, rfl, el, ea, nd, hb1, hf2, hr, hl⟩)
theorem setG_add {x : Value} {k : K} {Q : Bool → Shared → Prop} (R : SetG knd s.heap a l) (room : l.length + 1 < scanBound) (hkey : knd.is k x = true) (hsc : x.scannable = true)
    (hQ : ∀ h' l', Heap.SameBut a s.heap h' → l'.Perm (if k ∈ l then l else k :: l) → SetG knd h' a l' → Q (!decide (k ∈ l)) { s with heap := h' }) :
    wpAny (model P w) A (setAddHashed a x (knd.hash k)) Q E s := by
  obtain ⟨o, es, ep, t, ho, hex, hd, hel, ea, nd, hb, hf, hr, hl⟩ := R
  have hlen : es.size = l.length := by rw [← Array.length_toList]; exact ea.length
  unfold setAddHashed setAddHashedIn
  refine wpAny_holding (wpAny_bind (wpAny_setState_of ho hd hf ?_))
  dsimp only
  rw [byScan_of hsc hb hel]
  simp only [↓reduceIte]
  unfold setAddByScan
  refine wpAny_bind ?_
  refine wpAny_bind (wpAny_rule ?_)
  refine wpAny_bind (wpAny_setScan_of hkey ho hd hf hel ?_)
  cases hfi : List.findIdx? (fun e => knd.is k e.2) es.toList with
  | some j =>
    dsimp only
    obtain ⟨hj, pj, _⟩ := List.findIdx?_eq_some_iff_getElem.mp hfi
    have hkl : k ∈ l := by
      obtain ⟨k', hk', q⟩ := each_mem_l ea _ (List.getElem_mem hj)
      rw [knd.inj _ _ _ pj q]; exact hk'
    refine wpAny_pure (wpAny_pure ?_)
    have q := hQ s.heap l (Heap.SameBut.refl a s.heap) (by rw [if_pos hkl]) ⟨o, es, ep, t, ho, hex, hd, hel, ea, nd, hb, hf, hr, hl⟩
    rw [decide_eq_true hkl] at q
    exact q
  | none =>
    dsimp only
    have hkl : k ∉ l := fun z => by
      obtain ⟨e, he, q⟩ := each_mem_r ea k z
      have c := List.findIdx?_eq_none_iff.mp hfi e he
      rw [q] at c
      cases c
    have hgw : ∀ (b : Bool) {s₁ : Shared} {Q' : Unit → Shared → Prop}, Q' () s₁ → wpAny (model P w) A (match b with | true => rule "set.scan.the-table-gave-way" | false => pure ()) Q' E s₁ :=
      fun b s₁ Q' q => by cases b <;> first | exact wpAny_pure q | exact wpAny_rule q
    have pm := layNew_perm t es (knd.hash k) x
    have hf1 := layNew_fits t es (knd.hash k) x
    have hr1 := layNew_ris t es (knd.hash k) x hr
    have hl1 := layNew_led t es (knd.hash k) x
    generalize layNew t es (knd.hash k) x = Z at pm hf1 hr1 hl1 ⊢
    obtain ⟨es1, t1, wasDummy, gave⟩ := Z
    dsimp only at pm hf1 hr1 hl1 ⊢
    rw [Array.toList_push] at pm
    have pc : es1.toList.Perm ((knd.hash k, x) :: es.toList) := pm.trans (List.perm_append_singleton _ _)
    obtain ⟨l1, ea1, pl1⟩ := each_perm pc (.cons hkey ea)
    have el1 : ElemsOf knd es1.toList := (hel.push (k := k) (x := x) hkey hsc).perm pm
    have nd1 : l1.Nodup := pl1.nodup_iff.mpr (List.nodup_cons.mpr ⟨hkl, nd⟩)
    have hsz : es1.size = l.length + 1 := by rw [← Array.length_toList, pc.length_eq, List.length_cons, Array.length_toList, hlen]
    have hb1 : es1.size < scanBound := by rw [hsz]; exact room
    have hled : w.params.followText "set-order" = true ∨ t1.led = true := hl.imp id fun z => by rw [hl1]; exact z
    have fin : ∀ h' l', Heap.SameBut a s.heap h' → l'.Perm l1 → SetG knd h' a l' → Q true { s with heap := h' } := fun h' l' sb p r => by
      have q := hQ h' l' sb (by rw [if_neg hkl]; exact p.trans pl1) r
      rw [decide_eq_false hkl] at q
      exact q
    refine wpAny_bind (hgw _ ?_)
    split
    · refine wpAny_bind ?_
      rw [hashByValue_scannable 8 hsc]
      refine wpAny_pure ?_
      refine setG_tail ?_ ho hex hd el1 ea1 nd1 hb1 ?_ ?_ ?_ ?_
      · intro b s₁ Q' q; cases b <;> first | exact wpAny_pure q | exact wpAny_rule q
      · first | (split <;> first | exact hf1 | exact SetTable.fits_plain_off hf1) | exact hf1
      · first | (split <;> exact hr1) | exact hr1
      · first | (split <;> exact hled) | exact hled
      · intro h' l' sb p r; dsimp only; exact wpAny_pure (fin h' l' sb p r)
    · refine wpAny_bind (wpAny_pure ?_)
      simp only [↓reduceIte]
      refine setG_tail ?_ ho hex hd el1 ea1 nd1 hb1 hf1 hr1 hled ?_
      · intro b s₁ Q' q; cases b <;> first | exact wpAny_pure q | exact wpAny_rule q
      · intro h' l' sb p r; dsimp only; exact wpAny_pure (fin h' l' sb p r)
end
end L2
set_option Elab.async false
set_option linter.all false
set_option maxRecDepth 100000
/-! P34: set(x), x a list or a tuple of keys of one kind (printed by p34.py) -/
namespace L2
open PySem PySem.Spec PyProof.Rows PySem.W
def uniq {K : Type} [DecidableEq K] (ks : List K) : List K := ks.foldl (fun m k => if k ∈ m then m else k :: m) []
theorem uniq_app {K : Type} [DecidableEq K] (ks : List K) (k : K) : uniq (ks ++ [k]) = if k ∈ uniq ks then uniq ks else k :: uniq ks := by
  unfold uniq
  rw [List.foldl_append]; rfl
theorem uniq_mem {K : Type} [DecidableEq K] {ks : List K} {x : K} : x ∈ uniq ks ↔ x ∈ ks := by
  have key : ∀ (ks m : List K), x ∈ ks.foldl (fun m k => if k ∈ m then m else k :: m) m ↔ x ∈ m ∨ x ∈ ks := by
    intro ks
    induction ks with
    | nil => intro m; simp
    | cons k ks ih =>
      intro m
      rw [List.foldl_cons, ih]
      split
      · rename_i h
        constructor
        · rintro (z | z)
          · exact .inl z
          · exact .inr (List.mem_cons_of_mem _ z)
        · rintro (z | z)
          · exact .inl z
          · rcases List.mem_cons.mp z with rfl | z
            · exact .inl h
            · exact .inr z
      · rw [List.mem_cons, List.mem_cons]
        constructor
        · rintro ((z | z) | z)
          · exact .inr (.inl z)
          · exact .inl z
          · exact .inr (.inr z)
        · rintro (z | z | z)
          · exact .inl (.inr z)
          · exact .inl (.inl z)
          · exact .inr z
  have := key ks []
  unfold uniq
  simpa using this
theorem uniq_nodup {K : Type} [DecidableEq K] (ks : List K) : (uniq ks).Nodup := by
  have key : ∀ (ks m : List K), m.Nodup → (ks.foldl (fun m k => if k ∈ m then m else k :: m) m).Nodup := by
    intro ks
    induction ks with
    | nil => intro m h; exact h
    | cons k ks ih =>
      intro m h
      rw [List.foldl_cons]
      refine ih _ ?_
      split
      · exact h
      · rename_i q; exact List.nodup_cons.mpr ⟨q, h⟩
  exact key ks [] List.nodup_nil
theorem uniq_len {K : Type} [DecidableEq K] (ks : List K) : (uniq ks).length ≤ ks.length := by
  have key : ∀ (ks m : List K), (ks.foldl (fun m k => if k ∈ m then m else k :: m) m).length ≤ m.length + ks.length := by
    intro ks
    induction ks with
    | nil => intro m; exact Nat.le_refl _
    | cons k ks ih =>
      intro m
      rw [List.foldl_cons]
      have := ih (if k ∈ m then m else k :: m)
      have h2 : (if k ∈ m then m else k :: m).length ≤ m.length + 1 := by split <;> simp
      rw [List.length_cons]; omega
  have := key ks []
  unfold uniq
  simpa using this
theorem each_at {α β : Type} {R : α → β → Prop} : ∀ {xs : List α} {ys : List β} {i : Nat} {x : α}, EachIs R xs ys → xs[i]? = some x → ∃ y, ys[i]? = some y ∧ R x y
  | _, _, _, _, .nil, h => by simp at h
  | _, _, 0, _, .cons h1 _, h => by
    simp at h
    subst h
    exact ⟨_, rfl, h1⟩
  | _, _, i + 1, _, .cons _ h2, h => each_at (i := i) h2 (by simpa using h)
section
variable {P : Program} {w : World} {A : Around} {E : Value → Shared → Prop} {s : Shared} {K : Type} [DecidableEq K] {knd : KeyKind P w K}
theorem setG_new {h : Heap} {a : Addr} (ho : h.get? a = some { cls := .type "set", dict := none, data := .set #[] 0 (.fresh 0 0 (!w.params.followText "set-order")) }) : SetG knd h a [] :=
  ⟨_, #[], 0, _, ho, ⟨rfl, rfl, rfl⟩, rfl, (fun e he => by simp at he), .nil, List.nodup_nil, (by decide), (by rfl), List.Pairwise.nil, by
    show _ ∨ (!w.params.followText "set-order") = true
    cases w.params.followText "set-order"
    · exact .inr rfl
    · exact .inl rfl⟩
theorem setG_update {I : Addr} {fp wr : List Addr} {G : Array GenState → Array GenState → Prop} {n : Nat} {Pv : Nat → Value → Prop} {St : Nat → Shared → Prop} {R : Result → Shared → Prop}
    (W : WalksS P w A.in1 I fp wr G n Pv St) (S : Addr) (hSf : S ∉ fp) (ks : List K) (hn : n = ks.length) (hb : ks.length + 1 < scanBound) (hval : ∀ i v, Pv i v → ∃ k, ks[i]? = some k ∧ knd.is k v = true ∧ v.scannable = true) :
    ∀ (k i : Nat) (s : Shared), n - i = k → i ≤ n → St i s → (∃ l, l.Perm (uniq (ks.take i)) ∧ SetG knd s.heap S l) →
      (∀ s' l, Moved (S :: wr) G s s' → l.Perm (uniq ks) → SetG knd s'.heap S l → R (.ok (.ret .none)) s') →
      codeAny (model P w) A (.builtin "set.update.loop" ⟨[.ref S, .ref I], []⟩) R s := by
  have hSw : S ∉ wr := fun h => hSf (W.sub _ h)
  have hsub : ∀ b ∈ wr, b ∈ S :: wr := fun b hb => List.mem_cons_of_mem _ hb
  intro k
  induction k with
  | zero =>
    intro i s hk' hi hst ⟨l, hl, hS⟩ hR
    have hin : i = n := by omega
    subst hin
    refine codeAny_builtin F.entry_set_update_loop ?_
    rw [Around.under_plainId F.plain_set_update_loop _]
    show wpAny _ A.in1 (pyNext (.ref I) >>= _) _ _ s
    refine wpAny_bind (W.done s _ _ hst fun s' hm => ?_)
    show wpAny _ A.in1 (ret Value.none) _ _ s'
    have e : ks.take i = ks := List.take_of_length_le (by omega)
    rw [e] at hl
    exact wpAny_pure (hR s' l (hm.mono hsub) hl (hS.at fun o e => hm.heap S o hSw e))
  | succ k ih =>
    intro i s hk' hi hst ⟨l, hl, hS⟩ hR
    have hlt : i < n := by omega
    refine codeAny_builtin F.entry_set_update_loop ?_
    rw [Around.under_plainId F.plain_set_update_loop _]
    show wpAny _ A.in1 (pyNext (.ref I) >>= _) _ _ s
    refine wpAny_bind (W.item i s _ _ hlt hst fun v s' hP hst' hm => ?_)
    obtain ⟨z, hz, hv, hsc⟩ := hval i v hP
    have hS' : SetG knd s'.heap S l := hS.at fun o e => hm.heap S o hSw e
    show wpAny _ A.in1 (holding [v] (setAdd S v) >>= _) _ _ s'
    refine wpAny_bind (wpAny_holding ?_)
    unfold setAdd
    refine wpAny_holding ?_
    refine wpAny_bind (knd.pyHash hv ?_)
    have hll : l.length ≤ i := by
      have h1 := hl.length_eq
      have h2 := uniq_len (ks.take i)
      rw [List.length_take] at h2
      omega
    refine setG_add (s := { s' with toks := s'.toks + 1 }) hS' (by omega) hv hsc fun h' l' hsb hp hS2 => ?_
    have hp3 : l'.Perm (uniq (ks.take (i + 1))) := by
      rw [List.take_add_one, hz]
      show l'.Perm (uniq (ks.take i ++ [z]))
      rw [uniq_app]
      have hm1 : z ∈ l ↔ z ∈ uniq (ks.take i) := hl.mem_iff
      by_cases q : z ∈ l
      · rw [if_pos (hm1.mp q)]
        rw [if_pos q] at hp
        exact hp.trans hl
      · rw [if_neg (fun y => q (hm1.mpr y))]
        rw [if_neg q] at hp
        exact hp.trans (hl.cons _)
    refine wpAny_pure ⟨plainId_quiet F.plain_set_update_loop _, ih (i + 1) _ (by omega) hlt (W.frame _ s' _ _ hst' (Nat.le_succ _) fun b hb o e => ?_) ⟨l', hp3, hS2⟩ fun s'' l2 hm'' hl'' hS'' => ?_⟩
    · rw [hsb.2 b (fun h : b = S => hSf (by rw [← h]; exact hb))]; exact e
    · refine hR s'' l2 (Moved.trans W.gtrans ((hm.mono hsub).then_heap (Nat.le_succ _) fun b o hb e => ?_) hm'') hl'' hS''
      rw [hsb.2 b (fun h : b = S => hb (by rw [h]; exact List.mem_cons_self))]; exact e
end
end L2
set_option Elab.async false
set_option linter.all false
set_option maxRecDepth 100000
/-! P35: set(x) of a list, of a tuple (printed by p34.py) -/
namespace L2
open PySem PySem.Spec PyProof.Rows PySem.W
section
variable {P : Program} {w : World} {A : Around} {E : Value → Shared → Prop} {s : Shared} {K : Type} [DecidableEq K] {knd : KeyKind P w K}
set_option maxHeartbeats 3200000 in
theorem call_setG_list {l : Addr} {items : Array Value} (ks : List K) {Q : Value → Shared → Prop} (hh : A.handled = none) (hl : s.heap.IsList l items) (hit : EachIs (fun v k => knd.is k v = true ∧ v.scannable = true) items.toList ks) (hb : ks.length + 1 < scanBound)
    (h : ∀ (h' : Heap) (tk : Nat) (l' : List K), l'.Perm (uniq ks) → SetG knd h' s.heap.objs.size l' → (∀ b o, s.heap.get? b = some o → h'.get? b = some o) → Q (.ref s.heap.objs.size) { s with heap := h', toks := tk }) :
    wpAny (model P w) A (call (.type "set") [.ref l]) Q E s := by
  have hisz : items.size = ks.length := by
    have q := hit.length
    rw [Array.length_toList] at q
    exact q
  obtain ⟨c, tl, hmro⟩ := F.called_set.mro
  have hmade := F.called_set.made
  have hsub := F.called_set.sub
  refine wpAny_call (codeAny_of_tree ?_)
  show wpAny _ _ (callAny (.type "set") _) _ _ _
  refine wpAny_pure ⟨Code.quiet_builtin _ (by decide +kernel), codeAny_builtin F.entry_type_call ?_⟩
  rw [Around.under_plain (weight_type_call_type "set" [.ref l] []) rfl]
  have h1 := F.called_set.notType
  have h2 := F.called_set.canCreate
  have hct := F.typeCall_set_1 (.ref l)
  repeat (any_goals (first | assumption | wp_step))
  refine codeAny_mono (code_set_led1 (.ref l) (E := E) (Q₁ := fun obj s₁ => obj = .ref s.heap.objs.size ∧ s₁ = { s with heap := s.heap.push { cls := .type "set", dict := none, data := .set #[] 0 (.fresh 0 0 (!w.params.followText "set-order")) } }) ⟨rfl, rfl⟩) fun r s₁ hr => ?_
  cases r with
  | error e => exact hr
  | ok fl =>
    cases fl with
    | ret obj =>
      obtain ⟨rfl, rfl⟩ := hr
      have hS : (s.heap.push { cls := .type "set", dict := none, data := .set #[] 0 (.fresh 0 0 (!w.params.followText "set-order")) }).get? s.heap.objs.size = some { cls := .type "set", dict := none, data := .set #[] 0 (.fresh 0 0 (!w.params.followText "set-order")) } := Heap.get?_push_size _ rfl
      have hT : Shared.TypeIs { s with heap := s.heap.push { cls := .type "set", dict := none, data := .set #[] 0 (.fresh 0 0 (!w.params.followText "set-order")) } } (.ref s.heap.objs.size) "set" := ⟨_, hS, rfl⟩
      have hli := F.called_set.init.lookup
      have hbi := F.called_set.init.bind (.ref s.heap.objs.size)
      repeat (any_goals (first | assumption | wp_step))
      refine codeAny_mono (codeAny_call_builtin (R := wants (fun r s₂ => r = .none ∧ ∃ h' tk l', s₂ = { s with heap := h', toks := tk } ∧ l'.Perm (uniq ks) ∧ SetG knd h' s.heap.objs.size l' ∧
          (∀ b o, s.heap.get? b = some o → h'.get? b = some o)) E) F.called_set.init.plain F.entry_set_init (check_set_init_1 hT ?_)) fun r₂ s₂ hr₂ => ?_
      · obtain ⟨ol, hol, hcl, nl, hdl⟩ := hl
        obtain ⟨ocls, odict, odata, oslots⟩ := ol
        simp only at hcl hdl
        subst hcl; subst hdl
        have hol' : (s.heap.push { cls := .type "set", dict := none, data := .set #[] 0 (.fresh 0 0 (!w.params.followText "set-order")) }).get? l = some { cls := .type "list", dict := odict, data := .seq items nl, slots := oslots } := Heap.get?_push_of_some _ hol
        have hsls := F.sub_list_set
        have hslf := F.sub_list_frozenset
        have hne : (Value.type "list" == Value.type "dict") = false := by decide
        have hl1 : (s.heap.push { cls := .type "set", dict := none, data := .set #[] 0 (.fresh 0 0 (!w.params.followText "set-order")) }).IsList l items := ⟨_, hol', rfl, nl, rfl⟩
        unfold Builtin.«set.__init__» noKeywords Builtin.Frozenset.updateFrom
        generalize hPI : pyIter = PI
        wp_walk
        subst hPI
        refine wpAny_pyIter_list hl1 ?_
        refine wpAny_bind (wpAny_runValue ?_)
        have hlS : l < s.heap.objs.size := Heap.lt_size hol
        have hh3 : A.in1.in1.in1.handled = none := by simp [hh]
        have hneI : l ≠ (s.heap.push { cls := .type "set", dict := none, data := .set #[] 0 (.fresh 0 0 (!w.params.followText "set-order")) }).objs.size := by
          rw [Heap.size_push]; exact Nat.ne_of_lt (Nat.lt_succ_of_lt hlS)
        have hSf : s.heap.objs.size ∉ [(s.heap.push { cls := .type "set", dict := none, data := .set #[] 0 (.fresh 0 0 (!w.params.followText "set-order")) }).objs.size, l] := by
          rw [Heap.size_push]; simp only [List.mem_cons, List.mem_singleton, List.not_mem_nil, or_false, not_or]
          exact ⟨Nat.ne_of_lt (Nat.lt_succ_self _), Nat.ne_of_gt hlS⟩
        have hval : ∀ (i : Nat) (v : Value), items[i]? = some v → ∃ k, ks[i]? = some k ∧ knd.is k v = true ∧ v.scannable = true := fun i v hv => by
          rw [← Array.getElem?_toList] at hv
          exact each_at hit hv
        refine setG_update ((Walks.list hh3 _ l hneI items).toS) s.heap.objs.size
          hSf ks hisz hb hval (items.size - 0) 0 _ (by omega) (Nat.zero_le _)
          ⟨⟨_, Heap.get?_push_size _ rfl, rfl, rfl⟩, (hl1.push _)⟩ ?hS0 ?hR
        case hS0 =>
          have hget : ((s.heap.push { cls := .type "set", dict := none, data := .set #[] 0 (.fresh 0 0 (!w.params.followText "set-order")) }).push { cls := .type "list_iterator", data := .fields #[.ref l, .int 0 0] }).get? s.heap.objs.size
              = some { cls := .type "set", dict := none, data := .set #[] 0 (.fresh 0 0 (!w.params.followText "set-order")) } := Heap.get?_push_of_some _ hS
          exact ⟨[], .nil, setG_new hget⟩
        case hR =>
          intro s' l' hm hl' hS'
          obtain ⟨h', g2, d', tk', os'⟩ := s'
          have eg : g2 = s.gens := hm.gens
          have ed : d' = s.drawn := hm.drawn
          have eo : os' = s.os := hm.os
          subst eg; subst ed; subst eo
          show wpAny _ _ _ _ _ _
          refine wpAny_pure ?_
          show wpAny _ _ (ret Value.none) _ _ _
          refine wpAny_pure ⟨rfl, h', tk', l', rfl, hl', hS', fun b o e => ?_⟩
          have hb0 : b < s.heap.objs.size := Heap.lt_size e
          have hb1 : b ≠ s.heap.objs.size := Nat.ne_of_lt hb0
          have hb2 : b ≠ (s.heap.push { cls := .type "set", dict := none, data := .set #[] 0 (.fresh 0 0 (!w.params.followText "set-order")) }).objs.size := by
            rw [Heap.size_push]; exact Nat.ne_of_lt (Nat.lt_succ_of_lt hb0)
          exact hm.heap b o (by simp only [List.mem_cons, List.mem_singleton, List.not_mem_nil, or_false, not_or]; exact ⟨hb1, hb2⟩) (Heap.get?_push_of_some _ (Heap.get?_push_of_some _ e))
      · cases r₂ with
        | error e => exact hr₂
        | ok fl₂ =>
          cases fl₂ with
          | ret r =>
            obtain ⟨rfl, h', tk, l', rfl, hl', hS', hk'⟩ := hr₂
            repeat (any_goals (first | assumption | wp_step))
            exact h _ _ _ hl' hS' hk'
          | _ => exact hr₂.elim
    | _ => exact hr.elim
set_option maxHeartbeats 3200000 in
theorem call_setG_tuple {l : Addr} {items : Array Value} (ks : List K) {Q : Value → Shared → Prop} (hh : A.handled = none) (hl : s.heap.IsTuple l items) (hit : EachIs (fun v k => knd.is k v = true ∧ v.scannable = true) items.toList ks) (hb : ks.length + 1 < scanBound)
    (h : ∀ (h' : Heap) (tk : Nat) (l' : List K), l'.Perm (uniq ks) → SetG knd h' s.heap.objs.size l' → (∀ b o, s.heap.get? b = some o → h'.get? b = some o) → Q (.ref s.heap.objs.size) { s with heap := h', toks := tk }) :
    wpAny (model P w) A (call (.type "set") [.ref l]) Q E s := by
  have hisz : items.size = ks.length := by
    have q := hit.length
    rw [Array.length_toList] at q
    exact q
  obtain ⟨c, tl, hmro⟩ := F.called_set.mro
  have hmade := F.called_set.made
  have hsub := F.called_set.sub
  refine wpAny_call (codeAny_of_tree ?_)
  show wpAny _ _ (callAny (.type "set") _) _ _ _
  refine wpAny_pure ⟨Code.quiet_builtin _ (by decide +kernel), codeAny_builtin F.entry_type_call ?_⟩
  rw [Around.under_plain (weight_type_call_type "set" [.ref l] []) rfl]
  have h1 := F.called_set.notType
  have h2 := F.called_set.canCreate
  have hct := F.typeCall_set_1 (.ref l)
  repeat (any_goals (first | assumption | wp_step))
  refine codeAny_mono (code_set_led1 (.ref l) (E := E) (Q₁ := fun obj s₁ => obj = .ref s.heap.objs.size ∧ s₁ = { s with heap := s.heap.push { cls := .type "set", dict := none, data := .set #[] 0 (.fresh 0 0 (!w.params.followText "set-order")) } }) ⟨rfl, rfl⟩) fun r s₁ hr => ?_
  cases r with
  | error e => exact hr
  | ok fl =>
    cases fl with
    | ret obj =>
      obtain ⟨rfl, rfl⟩ := hr
      have hS : (s.heap.push { cls := .type "set", dict := none, data := .set #[] 0 (.fresh 0 0 (!w.params.followText "set-order")) }).get? s.heap.objs.size = some { cls := .type "set", dict := none, data := .set #[] 0 (.fresh 0 0 (!w.params.followText "set-order")) } := Heap.get?_push_size _ rfl
      have hT : Shared.TypeIs { s with heap := s.heap.push { cls := .type "set", dict := none, data := .set #[] 0 (.fresh 0 0 (!w.params.followText "set-order")) } } (.ref s.heap.objs.size) "set" := ⟨_, hS, rfl⟩
      have hli := F.called_set.init.lookup
      have hbi := F.called_set.init.bind (.ref s.heap.objs.size)
      repeat (any_goals (first | assumption | wp_step))
      refine codeAny_mono (codeAny_call_builtin (R := wants (fun r s₂ => r = .none ∧ ∃ h' tk l', s₂ = { s with heap := h', toks := tk } ∧ l'.Perm (uniq ks) ∧ SetG knd h' s.heap.objs.size l' ∧
          (∀ b o, s.heap.get? b = some o → h'.get? b = some o)) E) F.called_set.init.plain F.entry_set_init (check_set_init_1 hT ?_)) fun r₂ s₂ hr₂ => ?_
      · obtain ⟨ol, hol, hcl, nl, hdl⟩ := hl
        obtain ⟨ocls, odict, odata, oslots⟩ := ol
        simp only at hcl hdl
        subst hcl; subst hdl
        have hol' : (s.heap.push { cls := .type "set", dict := none, data := .set #[] 0 (.fresh 0 0 (!w.params.followText "set-order")) }).get? l = some { cls := .type "tuple", dict := odict, data := .seq items nl, slots := oslots } := Heap.get?_push_of_some _ hol
        have hsls := F.sub_tuple_set
        have hslf := F.sub_tuple_frozenset
        have hne : (Value.type "tuple" == Value.type "dict") = false := by decide
        have hl1 : (s.heap.push { cls := .type "set", dict := none, data := .set #[] 0 (.fresh 0 0 (!w.params.followText "set-order")) }).IsTuple l items := ⟨_, hol', rfl, nl, rfl⟩
        unfold Builtin.«set.__init__» noKeywords Builtin.Frozenset.updateFrom
        generalize hPI : pyIter = PI
        wp_walk
        subst hPI
        refine wpAny_pyIter_tuple hl1 ?_
        refine wpAny_bind (wpAny_runValue ?_)
        have hlS : l < s.heap.objs.size := Heap.lt_size hol
        have hh3 : A.in1.in1.in1.handled = none := by simp [hh]
        have hneI : l ≠ (s.heap.push { cls := .type "set", dict := none, data := .set #[] 0 (.fresh 0 0 (!w.params.followText "set-order")) }).objs.size := by
          rw [Heap.size_push]; exact Nat.ne_of_lt (Nat.lt_succ_of_lt hlS)
        have hSf : s.heap.objs.size ∉ [(s.heap.push { cls := .type "set", dict := none, data := .set #[] 0 (.fresh 0 0 (!w.params.followText "set-order")) }).objs.size, l] := by
          rw [Heap.size_push]; simp only [List.mem_cons, List.mem_singleton, List.not_mem_nil, or_false, not_or]
          exact ⟨Nat.ne_of_lt (Nat.lt_succ_self _), Nat.ne_of_gt hlS⟩
        have hval : ∀ (i : Nat) (v : Value), items[i]? = some v → ∃ k, ks[i]? = some k ∧ knd.is k v = true ∧ v.scannable = true := fun i v hv => by
          rw [← Array.getElem?_toList] at hv
          exact each_at hit hv
        refine setG_update ((Walks.tuple hh3 _ l hneI items).toS) s.heap.objs.size
          hSf ks hisz hb hval (items.size - 0) 0 _ (by omega) (Nat.zero_le _)
          ⟨⟨_, Heap.get?_push_size _ rfl, rfl, rfl⟩, (hl1.push _)⟩ ?hS0 ?hR
        case hS0 =>
          have hget : ((s.heap.push { cls := .type "set", dict := none, data := .set #[] 0 (.fresh 0 0 (!w.params.followText "set-order")) }).push { cls := .type "tuple_iterator", data := .fields #[.ref l, .int 0 0] }).get? s.heap.objs.size
              = some { cls := .type "set", dict := none, data := .set #[] 0 (.fresh 0 0 (!w.params.followText "set-order")) } := Heap.get?_push_of_some _ hS
          exact ⟨[], .nil, setG_new hget⟩
        case hR =>
          intro s' l' hm hl' hS'
          obtain ⟨h', g2, d', tk', os'⟩ := s'
          have eg : g2 = s.gens := hm.gens
          have ed : d' = s.drawn := hm.drawn
          have eo : os' = s.os := hm.os
          subst eg; subst ed; subst eo
          show wpAny _ _ _ _ _ _
          refine wpAny_pure ?_
          show wpAny _ _ (ret Value.none) _ _ _
          refine wpAny_pure ⟨rfl, h', tk', l', rfl, hl', hS', fun b o e => ?_⟩
          have hb0 : b < s.heap.objs.size := Heap.lt_size e
          have hb1 : b ≠ s.heap.objs.size := Nat.ne_of_lt hb0
          have hb2 : b ≠ (s.heap.push { cls := .type "set", dict := none, data := .set #[] 0 (.fresh 0 0 (!w.params.followText "set-order")) }).objs.size := by
            rw [Heap.size_push]; exact Nat.ne_of_lt (Nat.lt_succ_of_lt hb0)
          exact hm.heap b o (by simp only [List.mem_cons, List.mem_singleton, List.not_mem_nil, or_false, not_or]; exact ⟨hb1, hb2⟩) (Heap.get?_push_of_some _ (Heap.get?_push_of_some _ e))
      · cases r₂ with
        | error e => exact hr₂
        | ok fl₂ =>
          cases fl₂ with
          | ret r =>
            obtain ⟨rfl, h', tk, l', rfl, hl', hS', hk'⟩ := hr₂
            repeat (any_goals (first | assumption | wp_step))
            exact h _ _ _ hl' hS' hk'
          | _ => exact hr₂.elim
    | _ => exact hr.elim
end
end L2
set_option Elab.async false
set_option linter.all false
set_option maxRecDepth 100000
/-! P36: sorted(s), s a set of ints or of texts -/
namespace L2
open PySem PySem.Spec PyProof.Rows PySem.W
def keyPy : Key → PyData
  | .inl i => .int i
  | .inr x => .str x
section
variable {P : Program} {w : World} {A : Around} {E : Value → Shared → Prop} {s : Shared} {a : Addr} {l : List Key}
theorem key_reads {h : Heap} {k : Key} {v : Value} (e : (mixKind P w).is k v = true) : Reads h v (keyPy k) [] := by
  rcases keyIs_shape e with ⟨i, t, rfl, rfl⟩ | ⟨x, t, rfl, rfl⟩
  · exact .int i t
  · exact .str x t
theorem each_imp {α β : Type} {R T : α → β → Prop} (f : ∀ a b, R a b → T a b) : ∀ {xs : List α} {ys : List β}, EachIs R xs ys → EachIs T xs ys
  | _, _, .nil => .nil
  | _, _, .cons h1 h2 => .cons (f _ _ h1) (each_imp f h2)
theorem each_map_l {α β γ : Type} {R : α → β → Prop} {T : γ → β → Prop} {g : α → γ} (f : ∀ a b, R a b → T (g a) b) : ∀ {xs : List α} {ys : List β}, EachIs R xs ys → EachIs T (xs.map g) ys
  | _, _, .nil => .nil
  | _, _, .cons h1 h2 => .cons (f _ _ h1) (each_map_l f h2)
theorem sorted_setG {Q : Value → Shared → Prop} (R : SetG (mixKind P w) s.heap a l) (hh : A.handled = none) (hal : AllAlike (l.map keyPy)) (hk : Sortable (l.map keyPy)) (hL : l.length ≤ 1000000) (hu : A.units + 64 < cLine)
    (hQ : ∀ s' p (out : List Value) (c : Nat) (ns : List Key), (∀ b o, s.heap.get? b = some o → s'.heap.get? b = some o) → s'.gens = s.gens → s'.os = s.os → s.heap.objs.size ≤ p →
      s'.heap.get? p = some (seqObj "list" out.toArray c) → EachIs (fun v k => (mixKind P w).is k v = true) out ns → (∃ l' : List Key, l'.Perm l ∧ ns = l'.mergeSort (dataLe false keyPy)) → Q (.ref p) s') :
    wpAny (model P w) A (call (.builtin "sorted") [.ref a]) Q E s := by
  obtain ⟨o, es, ep, t, ho, hex, hd, hel, ea, nd, hb, hf, hr, hl⟩ := R
  refine Calls.call_function_entry kind_sorted plain_sorted entry_sorted (args_sorted1 _) ?_
  unfold Builtin.«sorted»
  refine wpAny_bind (m := checkCount "sorted" 1 1 _) (wpAny_pure ?_)
  refine wpAny_bind (collect_set (A := A.in1) hh ⟨o, ho, hex.1, hd⟩ hf hb hr hl fun s1 vs k1 hz g1 o1 pm => ?_)
  have ev : EachIs (fun v k => (mixKind P w).is k v = true) (es.toList.map (·.2)) l := each_map_l (g := fun e : Int × Value => e.2) (fun _ _ h => h) ea
  obtain ⟨l', ev', pl⟩ := each_perm pm ev
  have hvl : vs.length = l.length := by rw [ev'.length, pl.length_eq]
  refine wpAny_bind (wpAny_newList ?_ (by rw [hvl, sizeLine_eq]; omega))
  have hoL : (s1.heap.push (seqObj "list" vs.toArray 0)).get? s1.heap.objs.size = some (seqObj "list" vs.toArray 0) := Heap.get?_push_size _ rfl
  have hal' : AllAlike (l'.map keyPy) := fun d hd d' hd' => hal d ((pl.map keyPy).mem_iff.mp hd) d' ((pl.map keyPy).mem_iff.mp hd')
  have hk' : Sortable (l'.map keyPy) := hk.imp (fun h d hd => h d ((pl.map keyPy).mem_iff.mp hd)) (fun h d hd => h d ((pl.map keyPy).mem_iff.mp hd))
  refine wpAny_bind (wpAny_holding (list_sort_data (s := { s1 with heap := s1.heap.push (seqObj "list" vs.toArray 0) }) (enc := keyPy) hoL ev' (each_imp (fun v k h => ⟨[], key_reads h, by simp⟩) ev') hal' hk' (by rw [pl.length_eq, sizeLine_eq]; omega) (fun b hb => ?_) fun out hol eo => ?_))
  · have hdp : (keyPy b).depth = 0 := by cases b <;> simp [keyPy, PyData.depth]
    rw [hdp]
    show A.in1.units + 1 + 0 < cLine
    have e1 : A.in1.units ≤ A.units + 1 := by first | exact Nat.le_refl _ | (simp [Around.in1, Around.units])
    omega
  · obtain ⟨c, hc⟩ := sortedHeap_at (vs := vs) (out := out.toArray) hoL
    refine wpAny_pure ⟨_, rfl, hQ _ s1.heap.objs.size out c _ (fun b u e => ?_) g1 o1 hz hc eo ⟨l', pl, rfl⟩⟩
    have q := k1 b u e
    have hlt := Heap.lt_size q
    show (sortedHeap (s1.heap.push (seqObj "list" vs.toArray 0)) s1.heap.objs.size vs out.toArray).get? b = some u
    rw [sortedHeap_old (Nat.ne_of_lt hlt) (by rw [size_push']; exact Nat.lt_succ_of_lt hlt)]
    exact Heap.get?_push_of_some _ q
end
end L2
set_option Elab.async false
set_option linter.all false
set_option maxRecDepth 100000
/-! P37: sorted(set(x)), len(set(x)) -/
namespace L2
open PySem PySem.Spec PyProof.Rows PySem.W
def isL : Key → Bool
  | .inl _ => true
  | .inr _ => false
def sameK (ks : List Key) : Bool := ks.all isL || ks.all fun k => !isL k
theorem same_alike {ks l : List Key} (h : sameK ks = true) (hl : ∀ k ∈ l, k ∈ ks) : AllAlike (l.map keyPy) := by
  intro d hd d' hd'
  obtain ⟨k, hk, rfl⟩ := List.mem_map.mp hd
  obtain ⟨k', hk', rfl⟩ := List.mem_map.mp hd'
  unfold sameK at h
  rw [Bool.or_eq_true] at h
  rcases h with h | h
  · have h1 := List.all_eq_true.mp h k (hl k hk)
    have h2 := List.all_eq_true.mp h k' (hl k' hk')
    cases k with
    | inl i => cases k' with
      | inl j => simp [keyPy, alike]
      | inr y => cases h2
    | inr x => cases h1
  · have h1 := List.all_eq_true.mp h k (hl k hk)
    have h2 := List.all_eq_true.mp h k' (hl k' hk')
    cases k with
    | inl i => cases h1
    | inr x => cases k' with
      | inl j => cases h2
      | inr y => simp [keyPy, alike]
theorem key_sortable (l : List Key) : Sortable (l.map keyPy) := .inr fun d hd => by
  obtain ⟨k, hk, rfl⟩ := List.mem_map.mp hd
  cases k with
  | inl i => exact ⟨fun z => (nomatch z), fun xs z => (nomatch z)⟩
  | inr x => exact ⟨fun z => (nomatch z), fun xs z => (nomatch z)⟩
theorem keys_each {P : Program} {w : World} : ∀ {ks : List Key} {us : List Value}, Vals (ks.map kV) us → EachIs (fun v k => (mixKind P w).is k v = true ∧ v.scannable = true) us ks
  | [], _, .nil => .nil
  | .inl i :: ks, _, .cons r t => by
    obtain ⟨tk, rfl⟩ := r
    exact .cons ⟨by show keyIs (.inl i) (.int i tk) = true; simp [keyIs, Value.isInt], rfl⟩ (keys_each t)
  | .inr x :: ks, _, .cons r t => by
    obtain ⟨tk, rfl⟩ := r
    exact .cons ⟨by show keyIs (.inr x) (.str x tk) = true; simp [keyIs, Value.isStrOf], rfl⟩ (keys_each t)
theorem each_vals {P : Program} {w : World} : ∀ {ks : List Key} {us : List Value}, EachIs (fun v k => (mixKind P w).is k v = true) us ks → Vals (ks.map kV) us
  | _, _, .nil => .nil
  | k :: ks, _, .cons h t => by
    rcases keyIs_shape h with ⟨i, tk, rfl, rfl⟩ | ⟨x, tk, rfl, rfl⟩
    · exact .cons ⟨tk, rfl⟩ (each_vals t)
    · exact .cons ⟨tk, rfl⟩ (each_vals t)
section
variable {X : Cx} {pos : Pos}
def srtK (ks : List Key) : List Key := (uniq ks).mergeSort (dataLe false keyPy)
/-- sorted(set(x)), x a list or tuple of ints or of texts -/
def rSortSet (K : PySem.W.Frag) : List V → Hp → VK → Prop := fun xs H Q => ∃ l, ∃ ks : List Key, xs = [V.ref l] ∧ (SqL K H l (ks.map kV) ∨ SqT K H l (ks.map kV)) ∧ ks.length ≤ 1000 ∧ sameK ks = true ∧
  ∀ (p : Addr), H p = none → Q (.ref p) (upd H p (.lst ((srtK ks).map kV)))
theorem key_le_eq {a b : Key} (h : isL a = isL b) (h1 : dataLe false keyPy a b = true) (h2 : dataLe false keyPy b a = true) : a = b := by
  have e1 : (!(lexLt itemOrd (keyToks (keyPy b)) (keyToks (keyPy a)))) = true := h1
  have e2 : (!(lexLt itemOrd (keyToks (keyPy a)) (keyToks (keyPy b)))) = true := h2
  rw [Bool.not_eq_true'] at e1 e2
  have t := (listOrd itemOrd).total _ _ e2 e1
  cases a with
  | inl i => cases b with
    | inl j =>
      have t' : ([Sum.inl i] : List (Int ⊕ List Nat)) = [Sum.inl j] := t
      rw [Sum.inl.inj (List.cons.inj t').1]
    | inr y => cases h
  | inr x => cases b with
    | inl j => cases h
    | inr y =>
      have t' : ([Sum.inr x.cps.toList] : List (Int ⊕ List Nat)) = [Sum.inr y.cps.toList] := t
      rw [str_of_cps (Sum.inr.inj (List.cons.inj t').1)]
theorem srt_eq {ks l : List Key} (h : sameK ks = true) (p : l.Perm (uniq ks)) : l.mergeSort (dataLe false keyPy) = srtK ks := by
  have tot := sortLe_total (listOrd itemOrd) false fun b : Key => keyToks (keyPy b)
  have s1 : ∀ l : List Key, (l.mergeSort (dataLe false keyPy)).Pairwise fun a b => dataLe false keyPy a b = true := fun l => List.pairwise_mergeSort (fun a b c h1 h2 => tot.trans a b c h1 h2) (fun a b => by have := tot.total a b; rw [Bool.or_eq_true]; exact this) l
  have hm : ∀ x ∈ l.mergeSort (dataLe false keyPy), x ∈ ks := fun x hx => uniq_mem.mp (p.mem_iff.mp (List.mem_mergeSort.mp hx))
  have hm2 : ∀ x ∈ srtK ks, x ∈ ks := fun x hx => uniq_mem.mp (List.mem_mergeSort.mp hx)
  refine List.Perm.eq_of_pairwise (le := fun a b => dataLe false keyPy a b = true) (fun a b ha hb h1 h2 => key_le_eq ?_ h1 h2) (s1 l) (s1 _) ((List.mergeSort_perm _ _).trans (p.trans (List.mergeSort_perm _ _).symm))
  have ka := hm a ha
  have kb := hm2 b hb
  unfold sameK at h
  rw [Bool.or_eq_true] at h
  rcases h with h | h
  · rw [List.all_eq_true.mp h a ka, List.all_eq_true.mp h b kb]
  · have e1 := List.all_eq_true.mp h a ka
    have e2 := List.all_eq_true.mp h b kb
    simp only [Bool.not_eq_true'] at e1 e2
    rw [e1, e2]
theorem pe_sortedSet {a : Expr} {ta : TA} {p p2 q pos : Pos} (hc : X.calm = true) (hu : X.A.units + 65 < cLine) (hg : Gl X "sorted") (hm : X.mg "sorted" = none) (hg2 : Gl X "set") (hm2 : X.mg "set" = none) (ha : PA X [a] ta)
    (na : starEach [a] X.env = [(false, eval a X.env)] := by rfl) (nb : starEach [.Call (.Name "set" p2) [a] [] q] X.env = (false, eval (.Call (.Name "set" p2) [a] [] q) X.env) :: starEach [] X.env := by rfl) : PE X (.Call (.Name "sorted" p) [.Call (.Name "set" p2) [a] [] q] [] pos) (fun σ H Q => ta σ H fun xs H1 => rSortSet X.K xs H1 Q) := by
  refine ⟨fun pins s σ H Q I h => ?_⟩
  refine Call_ (ld_blt I hg hm (by rfl) ?_)
  refine PyProof.Rows.callWith_builtin1 (PyProof.Rows.args_cons ?_ rfl) rfl rfl
  refine Call_ (ld_blt I hg2 hm2 boot_set ?_)
  refine PyProof.Rows.callWith_type1 (thn (ha.run q pins s σ H _ I h) fun us s1 ⟨vs, H1, I1, r1, q1⟩ => ?_) na rfl
  obtain ⟨l, ks, rfl, hq, h1, hs, q1⟩ := q1
  rw [Vals.ref1 r1]
  have aux : ∀ (s2 : Shared) (a2 : Addr) (l' : List Key), Inv X pins σ H1 s2 → l'.Perm (uniq ks) → SetG (mixKind X.prog X.w) s2.heap a2 l' → wpAny (model X.prog X.w) X.A (call (.builtin "sorted") [.ref a2]) (EP X pins σ Q) X.xe s2 := fun s2 a2 l' I2 hp hS => by
    have hll : l'.length ≤ 1000 := by
      have := uniq_len ks
      rw [hp.length_eq]; omega
    have hmem : ∀ k ∈ l', k ∈ ks := fun k hk => uniq_mem.mp (hp.mem_iff.mp hk)
    refine sorted_setG hS (I2.ok.hd hc) (same_alike hs hmem) (key_sortable l') (by omega) (by omega) fun s' p out c ns k g o hp2 hg2 eo ⟨l2, pl2, en⟩ => ?_
    subst en
    have hlen : ((l2.mergeSort (dataLe false keyPy)).map kV).length ≤ sizeLine := by
      rw [List.length_map, List.length_mergeSort, pl2.length_eq, sizeLine_eq]; omega
    have hn : H1 p = none := I2.hok.fresh hp2
    have J : Inv X pins σ (upd H1 p (.lst ((l2.mergeSort (dataLe false keyPy)).map kV))) { s2 with heap := s'.heap, gens := s'.gens, drawn := s'.drawn, toks := s'.toks } :=
      I2.call (ch := []) (Un.laid k hp2 hn) (I2.hok.laid k hp2 ⟨hlen, out, c, each_vals eo, hg2⟩) (by rw [g]; exact I2.bare) (fun _ z => nomatch z)
    have e : s' = { s2 with heap := s'.heap, gens := s'.gens, drawn := s'.drawn, toks := s'.toks } := by
      cases s'
      cases s2
      cases o
      rfl
    rw [e]
    have q2 := q1 p hn
    rw [← srt_eq hs (pl2.trans hp)] at q2
    exact ⟨.ref p, _, J, rfl, q2⟩
  have fin : ∀ (h' : Heap) (tk : Nat) (l' : List Key), l'.Perm (uniq ks) → SetG (mixKind X.prog X.w) h' s1.heap.objs.size l' →
      (∀ b o, s1.heap.get? b = some o → h'.get? b = some o) →
      wpAny (model X.prog X.w) X.A (spliced (backTo pos (starEach [] X.env))) (fun vs s₂ => wpAny (model X.prog X.w) X.A (call (.builtin "sorted") (Value.ref s1.heap.objs.size :: vs)) (EP X pins σ Q) X.xe s₂) X.xe { s1 with heap := h', toks := tk } := fun h' tk l' hp hS hk => by
    refine PyProof.Rows.args_nil ?_
    exact aux _ _ l' (I1.kept fun b o e => hk b o e) hp hS
  have hb : ks.length + 1 < scanBound := by unfold scanBound; omega
  rcases hq with hq | hq
  · obtain ⟨its, r, pl, hz⟩ := I1.list hq
    exact call_setG_list ks (I1.ok.hd hc) pl.isList (by simpa using keys_each r) hb fun h' tk l' hp hS hk => fin h' tk l' hp hS hk
  · obtain ⟨its, r, pl, hz⟩ := I1.tuple hq
    exact call_setG_tuple ks (I1.ok.hd hc) pl (by simpa using keys_each r) hb fun h' tk l' hp hS hk => fin h' tk l' hp hS hk
end
end L2
set_option Elab.async false
set_option linter.all false
set_option maxRecDepth 100000
/-! P38: sorted(set(x)) as a value -/
namespace Pv
open PySem PySem.Spec PyProof.Rows L2 PySem.W
def keyD1 : D → Option Key
  | .int i => some (.inl i)
  | .str x => some (.inr x)
  | _ => none
def kDs : Key → D
  | .inl i => .int i
  | .inr x => .str x
def keysD : List D → Option (List Key)
  | [] => some []
  | d :: ds => (keyD1 d).bind fun k => (keysD ds).map fun ks => k :: ks
section
variable {X : Cx} {K : PySem.W.Frag} {G0 G G1 G' H H' : Hp} {σ : L2.St} {ρ : Env} {ws : List (V × Arg)} {a : Expr} {pos : Pos} {A : Fe}
theorem keys_rep : ∀ {ds : List D} {ks : List Key} {xs : List V}, keysD ds = some ks → RepFs K G ds xs → xs = ks.map kV
  | [], _, _, h, r => by cases h; rw [show _ = [] from r]; rfl
  | d :: ds, _, _, h, ⟨x, r, e1, e2, e3⟩ => by
    obtain ⟨k, hk, h⟩ := Option.bind_eq_some_iff.mp h
    obtain ⟨ks, hks, rfl⟩ := Option.map_eq_some_iff.mp h
    have := keys_rep hks e3
    subst e1 this
    have ex : x = kV k := by
      cases d with
      | int i => cases hk; exact e2
      | str s => cases hk; exact e2
      | _ => cases hk
    rw [ex]; rfl
theorem rep_keys : ∀ ks : List Key, RepFs K G (ks.map kDs) (ks.map kV)
  | [] => rfl
  | .inl i :: ks => ⟨_, _, rfl, rfl, rep_keys ks⟩
  | .inr x :: ks => ⟨_, _, rfl, rfl, rep_keys ks⟩
def gSetSort (u : W) : Option W := (itemsD u).bind fun ds => (keysD ds).bind fun ks => if ks.length ≤ 1000 ∧ sameK ks = true then some (1, .lst ((srtK ks).map kDs)) else none
theorem g_setSort : Op1 K (fun x H Q => rSortSet K [x] H Q) gSetSort := by
  intro G H u x Fu w e ru hw
  obtain ⟨ds, hd, hw⟩ := Option.bind_eq_some_iff.mp hw
  obtain ⟨ks, hk, hw⟩ := Option.bind_eq_some_iff.mp hw
  obtain ⟨a, xs, rfl, h1, h2⟩ := items_rep e hd ru
  have := keys_rep hk h2
  subst this
  split at hw
  · rename_i hc
    cases hw
    refine fun Q q => ⟨a, ks, rfl, h1, hc.1, hc.2, fun p hp => ?_⟩
    have g := Grow.newO (o := .lst ((srtK ks).map kV)) e hp trivial
    exact q _ _ _ [p] g ⟨p, _, [], rfl, upd_same, rfl, ROs.of_F (rep_keys _)⟩
  · cases hw
theorem e_setSort {p p2 q : Pos} (hc : X.calm = true) (hu : X.A.units + 65 < cLine) (hg : Gl X "sorted") (hm : X.mg "sorted" = none) (hg2 : Gl X "set") (hm2 : X.mg "set" = none) (ha : OkE X a A)
    (hs : starEach [a] X.env = (false, eval a X.env) :: starEach [] X.env := by rfl) (na : starEach [a] X.env = [(false, eval a X.env)] := by rfl) (nb : starEach [.Call (.Name "set" p2) [a] [] q] X.env = (false, eval (.Call (.Name "set" p2) [a] [] q) X.env) :: starEach [] X.env := by rfl) :
    OkE X (.Call (.Name "sorted" p) [.Call (.Name "set" p2) [a] [] q] [] pos) (pCall (on1 gSetSort) (aCons A aNil)) :=
  PE.imp (pe_sortedSet hc hu hg hm hg2 hm2 (a_cons ha a_nil hs) na nb) (opN_imp (opN_1 g_setSort))
end
end Pv
set_option Elab.async false
set_option linter.all false
set_option maxRecDepth 100000
/-! P39: len(set(x)) -/
namespace L2
open PySem PySem.Spec PyProof.Rows PySem.W
section
variable {X : Cx} {pos : Pos}
/-- len(set(x)), x a list or tuple of ints and texts -/
def rLenSet (K : PySem.W.Frag) : List V → Hp → VK → Prop := fun xs H Q => ∃ l, ∃ ks : List Key, xs = [V.ref l] ∧ (SqL K H l (ks.map kV) ∨ SqT K H l (ks.map kV)) ∧ ks.length ≤ 1000 ∧ Q (.int ((uniq ks).length : Nat)) H
theorem pe_lenSetG {a : Expr} {ta : TA} {p p2 q pos : Pos} (hc : X.calm = true) (hg : Gl X "len") (hm : X.mg "len" = none) (hg2 : Gl X "set") (hm2 : X.mg "set" = none) (ha : PA X [a] ta)
    (na : starEach [a] X.env = [(false, eval a X.env)] := by rfl) : PE X (.Call (.Name "len" p) [.Call (.Name "set" p2) [a] [] q] [] pos) (fun σ H Q => ta σ H fun xs H1 => rLenSet X.K xs H1 Q) := by
  refine ⟨fun pins s σ H Q I h => ?_⟩
  refine Call_ (ld_blt I hg hm boot_len ?_)
  refine PyProof.Rows.callWith_builtin1 (PyProof.Rows.args_cons ?_ rfl) rfl rfl
  refine Call_ (ld_blt I hg2 hm2 boot_set ?_)
  refine PyProof.Rows.callWith_type1 (thn (ha.run q pins s σ H _ I h) fun us s1 ⟨vs, H1, I1, r1, q1⟩ => ?_) na rfl
  obtain ⟨l, ks, rfl, hq, h1, q1⟩ := q1
  rw [Vals.ref1 r1]
  have fin : ∀ (h' : Heap) (tk : Nat) (l' : List Key), l'.Perm (uniq ks) → SetG (mixKind X.prog X.w) h' s1.heap.objs.size l' →
      (∀ b o, s1.heap.get? b = some o → h'.get? b = some o) →
      wpAny (model X.prog X.w) X.A (spliced (backTo pos (starEach [] X.env))) (fun vs s₂ => wpAny (model X.prog X.w) X.A (call (.builtin "len") (Value.ref s1.heap.objs.size :: vs)) (EP X pins σ Q) X.xe s₂) X.xe { s1 with heap := h', toks := tk } := fun h' tk l' hp hS hk => by
    refine PyProof.Rows.args_nil ?_
    have I2 : Inv X pins σ H1 { s1 with heap := h', toks := tk } := I1.kept fun b o e => hk b o e
    obtain ⟨o, es, ep, t, ho, hex, hd, hel, ea, nd, hb, hf, _, _⟩ := hS
    have hn : es.size = (uniq ks).length := by rw [← Array.length_toList, ea.length, hp.length_eq]
    have hu := uniq_len ks
    refine call_len_set ho hex hd hf (by rw [hn]; omega) ⟨.int ((uniq ks).length : Nat), H1, I2.tok _, ⟨_, by rw [hn]⟩, q1⟩
  have hb : ks.length + 1 < scanBound := by unfold scanBound; omega
  rcases hq with hq | hq
  · obtain ⟨its, r, pl, hz⟩ := I1.list hq
    exact call_setG_list ks (I1.ok.hd hc) pl.isList (by simpa using keys_each r) hb fun h' tk l' hp hS hk => fin h' tk l' hp hS hk
  · obtain ⟨its, r, pl, hz⟩ := I1.tuple hq
    exact call_setG_tuple ks (I1.ok.hd hc) pl (by simpa using keys_each r) hb fun h' tk l' hp hS hk => fin h' tk l' hp hS hk
end
end L2
namespace Pv
open PySem PySem.Spec PyProof.Rows L2 PySem.W
section
variable {X : Cx} {K : PySem.W.Frag} {a : Expr} {pos : Pos} {A : Fe}
def gSetLen (u : W) : Option W := (itemsD u).bind fun ds => (keysD ds).bind fun ks => if ks.length ≤ 1000 then some (0, .int ((uniq ks).length : Nat)) else none
theorem g_setLen : Op1 K (fun x H Q => rLenSet K [x] H Q) gSetLen := by
  intro G H u x Fu w e ru hw
  obtain ⟨ds, hd, hw⟩ := Option.bind_eq_some_iff.mp hw
  obtain ⟨ks, hk, hw⟩ := Option.bind_eq_some_iff.mp hw
  obtain ⟨a, xs, rfl, h1, h2⟩ := items_rep e hd ru
  have := keys_rep hk h2
  subst this
  split at hw
  · rename_i hc
    cases hw
    exact Res.pure (v := .int _) e rfl fun Q q => ⟨a, ks, rfl, h1, hc, q⟩
  · cases hw
theorem e_setLen {p p2 q : Pos} (hc : X.calm = true) (hg : Gl X "len") (hm : X.mg "len" = none) (hg2 : Gl X "set") (hm2 : X.mg "set" = none) (ha : OkE X a A)
    (hs : starEach [a] X.env = (false, eval a X.env) :: starEach [] X.env := by rfl) (na : starEach [a] X.env = [(false, eval a X.env)] := by rfl) :
    OkE X (.Call (.Name "len" p) [.Call (.Name "set" p2) [a] [] q] [] pos) (pCall (on1 gSetLen) (aCons A aNil)) :=
  PE.imp (pe_lenSetG hc hg hm hg2 hm2 (a_cons ha a_nil hs) na) (opN_imp (opN_1 g_setLen))
end
end Pv
set_option Elab.async false
set_option linter.all false
set_option maxRecDepth 100000
/-! P40: list(range(..)) -/
namespace Pv
open PySem PySem.Spec PyProof.Rows L2 PySem.W
section
variable {X : Cx} {K : PySem.W.Frag} {G0 G G1 G' H H' : Hp} {σ : L2.St} {ρ : Env} {ws : List (V × Arg)} {a b : Expr} {pos : Pos} {A B : Fe}
theorem rep_rng (lo hi : Int) : RepFs K G (rngD lo (hi - lo).toNat) (rgV lo hi) := by
  unfold rngD rgV
  generalize (List.range (hi - lo).toNat) = xs
  induction xs with
  | nil => rfl
  | cons x xs ih => exact ⟨_, _, rfl, rfl, ih⟩
def pLstRg (it : Fit) : Fe := fun ρ => (it ρ).bind fun ds => if ds.length ≤ big then some (.v 1 (.lst ds)) else none
theorem e_lstRg1 {p p2 q : Pos} (hc : X.calm = true) (hg : Gl X "list") (hm : X.mg "list" = none) (hg2 : Gl X "range") (hm2 : X.mg "range" = none) (ha : OkE X a A)
    (na : starEach [a] X.env = (false, eval a X.env) :: starEach [] X.env := by rfl) (nb : starEach [.Call (.Name "range" p2) [a] [] q] X.env = (false, eval (.Call (.Name "range" p2) [a] [] q) X.env) :: starEach [] X.env := by rfl) :
    OkE X (.Call (.Name "list" p) [.Call (.Name "range" p2) [a] [] q] [] pos) (pLstRg (iRange1 A)) :=
  PE.imp (pe_listRg hc hg hm (prg_1 (p := p2) (pos := q) hg2 hm2 ha na) nb) fun σ H Q ⟨G0, ρ, ws, x, I, hf, post⟩ => by
  obtain ⟨ds, hds, hf⟩ := Option.bind_eq_some_iff.mp hf
  obtain ⟨w, hw, hds⟩ := Option.bind_eq_some_iff.mp hds
  obtain ⟨k, d⟩ := w
  cases d <;> first | (cases hds; done) | skip
  rename_i n
  simp only at hds
  split at hds
  · rename_i hn
    cases hds
    split at hf
    · rename_i hb
      cases hf
      obtain ⟨ar, har, hv⟩ := Option.bind_eq_some_iff.mp hw
      refine ⟨G0, ρ, ws, ar, I, har, fun v H1 I1 => ?_⟩
      obtain ⟨G, F1, F2, J⟩ := I1
      obtain ⟨Fx, rx⟩ := Si.top (ws := ws) J hv
      obtain ⟨F2', _, J'⟩ := Si.drop (ws := ws) J
      obtain rfl := rx.int
      have hlen : n.toNat ≤ 1000000 := by simpa [rngD, big] using hb
      refine ⟨n, rfl, ⟨by omega, by omega, by omega, by omega, by omega⟩, fun L hL => ?_⟩
      have g := Grow.newO (o := .lst (rgV 0 n)) J'.ex hL trivial
      have rr : RepFs X.K G (rngD 0 n.toNat) (rgV 0 n) := by
        have := rep_rng (K := X.K) (G := G) 0 n
        rwa [Int.sub_zero] at this
      exact post _ _ (J'.push (k := 1) (d := .lst (rngD 0 n.toNat)) g ⟨L, _, [], rfl, upd_same, rfl, ROs.of_F rr⟩).SI
    · cases hf
  · cases hds
theorem e_lstRg2 {p p2 q : Pos} (hc : X.calm = true) (hg : Gl X "list") (hm : X.mg "list" = none) (hg2 : Gl X "range") (hm2 : X.mg "range" = none) (ha : OkE X a A) (hb : OkE X b B)
    (na : starEach [a, b] X.env = (false, eval a X.env) :: starEach [b] X.env := by rfl) (na2 : starEach [b] X.env = (false, eval b X.env) :: starEach [] X.env := by rfl) (hpl : (backTo q (starEach [b] X.env)).any (·.1) = false := by rfl) (nb : starEach [.Call (.Name "range" p2) [a, b] [] q] X.env = (false, eval (.Call (.Name "range" p2) [a, b] [] q) X.env) :: starEach [] X.env := by rfl) :
    OkE X (.Call (.Name "list" p) [.Call (.Name "range" p2) [a, b] [] q] [] pos) (pLstRg (iRange2 A B)) :=
  PE.imp (pe_listRg hc hg hm (prg_2 (p := p2) (pos := q) hg2 hm2 ha hb na na2 hpl) nb) fun σ H Q ⟨G0, ρ, ws, x, I, hf, post⟩ => by
  obtain ⟨ds, hds, hf⟩ := Option.bind_eq_some_iff.mp hf
  obtain ⟨w, hw, hds⟩ := Option.bind_eq_some_iff.mp hds
  obtain ⟨u, hu, hds⟩ := Option.bind_eq_some_iff.mp hds
  obtain ⟨k, d⟩ := w
  obtain ⟨l, c⟩ := u
  obtain ⟨m, rfl⟩ : ∃ m, d = .int m := by cases d <;> first | (cases hds; done) | exact ⟨_, rfl⟩
  obtain ⟨n, rfl⟩ : ∃ n, c = .int n := by cases c <;> first | (cases hds; done) | exact ⟨_, rfl⟩
  simp only at hds
  split at hds
  · rename_i hn
    cases hds
    split at hf
    · rename_i hb
      cases hf
      obtain ⟨ar, har, hv⟩ := Option.bind_eq_some_iff.mp hw
      obtain ⟨br, hbr, hvb⟩ := Option.bind_eq_some_iff.mp hu
      refine ⟨G0, ρ, ws, ar, I, har, fun v H1 I1 => ⟨G0, ρ, (v, ar) :: ws, br, I1, hbr, fun y H2 I2 => ?_⟩⟩
      obtain ⟨G, F1, F2, J⟩ := I2
      obtain ⟨Fy, ry⟩ := Si.top (ws := (v, ar) :: ws) J hvb
      obtain ⟨F2', _, J'⟩ := Si.drop (ws := (v, ar) :: ws) J
      obtain ⟨Fx, rx⟩ := Si.top (ws := ws) J' hv
      obtain ⟨F2'', _, J''⟩ := Si.drop (ws := ws) J'
      obtain rfl := rx.int
      obtain rfl := ry.int
      have hlen : (n - m).toNat ≤ 1000000 := by simpa [rngD, big] using hb
      refine ⟨m, n, rfl, rfl, ⟨by omega, by omega, by omega, by omega, by omega⟩, fun L hL => ?_⟩
      have g := Grow.newO (o := .lst (rgV m n)) J''.ex hL trivial
      have rr : RepFs X.K G (rngD m (n - m).toNat) (rgV m n) := rep_rng m n
      exact post _ _ (J''.push (k := 1) (d := .lst (rngD m (n - m).toNat)) g ⟨L, _, [], rfl, upd_same, rfl, ROs.of_F rr⟩).SI
    · cases hf
  · cases hds
end
end Pv
set_option Elab.async false
set_option linter.all false
set_option maxRecDepth 100000
/-! P41: sorted(set(x)), x a list of tuples of ints -/
namespace L2
open PySem PySem.Spec PyProof.Rows PySem.W
section
variable {X : Cx} {pos : Pos}
def rSortSetT (K : PySem.W.Frag) : List V → Hp → VK → Prop := fun xs H Q => ∃ (l : Addr) (ks : List (Addr × List Int)) (d : Nat) (B : Int), xs = [V.ref l] ∧ SqL K H l (ks.map fun p => V.ref p.1) ∧ (∀ p ∈ ks, SqT K H p.1 (p.2.map V.int)) ∧ ks.length < 64 ∧ 1 ≤ d ∧ (∀ p ∈ ks, p.2.length = d ∧ TS.Bd B p.2) ∧
  ∀ (p : Addr) (L' : List (Addr × List Int)), H p = none → (∀ p ∈ L', p ∈ ks) → (∀ p ∈ ks, p.2 ∈ L'.map (·.2)) → (L'.map (·.2)).Nodup → L'.Pairwise (fun q r => TS.code B q.2 ≤ TS.code B r.2) → Q (.ref p) (upd H p (.lst (L'.map fun q => V.ref q.1)))
theorem pe_sortedSetT {a : Expr} {ta : TA} {p p2 q pos : Pos} (hc : X.calm = true) (hu : X.A.units + 65 < cLine) (hg : Gl X "sorted") (hm : X.mg "sorted" = none) (hg2 : Gl X "set") (hm2 : X.mg "set" = none) (ha : PA X [a] ta)
    (na : starEach [a] X.env = [(false, eval a X.env)] := by rfl) (nb : starEach [.Call (.Name "set" p2) [a] [] q] X.env = (false, eval (.Call (.Name "set" p2) [a] [] q) X.env) :: starEach [] X.env := by rfl) : PE X (.Call (.Name "sorted" p) [.Call (.Name "set" p2) [a] [] q] [] pos) (fun σ H Q => ta σ H fun xs H1 => rSortSetT X.K xs H1 Q) := by
  refine ⟨fun pins s σ H Q I h => ?_⟩
  refine Call_ (ld_blt I hg hm (by rfl) ?_)
  refine PyProof.Rows.callWith_builtin1 (PyProof.Rows.args_cons ?_ rfl) rfl rfl
  refine Call_ (ld_blt I hg2 hm2 boot_set ?_)
  refine PyProof.Rows.callWith_type1 (thn (ha.run q pins s σ H _ I h) fun us s1 ⟨vs, H1, I1, r1, q1⟩ => ?_) na rfl
  obtain ⟨l, ks, d, B, rfl, hl, hk, hf, hd, hB, q1⟩ := q1
  rw [Vals.ref1 r1]
  have aux : ∀ (s2 : Shared) (a2 : Addr) (L : List (Addr × List Int)) (es : Array (Int × Value)) (ep : Nat) (t : SetTable), Inv X pins σ H1 s2 → Got ks ks.length L → SetTR X.prog X.w s2.heap a2 L es ep t → wpAny (model X.prog X.w) X.A (call (.builtin "sorted") [.ref a2]) (EP X pins σ Q) X.xe s2 := fun s2 a2 L es ep t I2 g R => by
    have sub : ∀ p ∈ L, p ∈ ks := fun p hp => List.mem_of_mem_take (g.sub p hp)
    refine sorted_setT R (I2.ok.hd hc) hd (fun p hp => hB p (sub p hp)) fun s' p out c L' k g2 o hp hg2 hout pm pw => ?_
    have hfew : L'.length < 64 := by rw [pm.length_eq]; exact R.few
    have hlen : (L'.map fun q => V.ref q.1).length ≤ sizeLine := by rw [List.length_map, sizeLine_eq]; omega
    have hn : H1 p = none := I2.hok.fresh hp
    have hv : Vals (L'.map fun q => V.ref q.1) out.toList := by rw [hout]; exact vals_of_refs L'
    have J : Inv X pins σ (upd H1 p (.lst (L'.map fun q => V.ref q.1))) { s2 with heap := s'.heap, gens := s'.gens, drawn := s'.drawn, toks := s'.toks } :=
      I2.call (ch := []) (Un.laid k hp hn) (I2.hok.laid k hp ⟨hlen, out.toList, c, hv, hg2⟩) (by rw [g2]; exact I2.bare) (fun _ z => nomatch z)
    have e : s' = { s2 with heap := s'.heap, gens := s'.gens, drawn := s'.drawn, toks := s'.toks } := by
      cases s'
      cases s2
      cases o
      rfl
    rw [e]
    exact ⟨.ref p, _, J, rfl, q1 p L' hn (fun p hp => sub p (pm.mem_iff.mp hp)) (fun p hp => (pm.map (·.2)).mem_iff.mpr (g.all p (by rw [List.take_length]; exact hp))) ((pm.map (·.2)).nodup_iff.mpr R.nd) pw⟩
  obtain ⟨its, rv, pl, hz⟩ := I1.list hl
  refine call_set_tups (P := X.prog) (w := X.w) ks (I1.ok.hd hc) pl.isList (by simpa using refs_of_vals rv) (fun p hp => I1.isT (hk p hp)) hf (by omega) fun h' tk L es ep t R g k => ?_
  refine PyProof.Rows.args_nil ?_
  exact aux _ _ L es ep t (I1.kept fun b o e => k b o e) g R
end
end L2
set_option Elab.async false
set_option linter.all false
set_option maxRecDepth 100000
/-! P42: sorted(set(x)), x a list of tuples of ints, as a value -/
namespace Pv
open PySem PySem.Spec PyProof.Rows L2 PySem.W
def lexZ : List Int → List Int → Bool
  | [], _ => true
  | _ :: _, [] => false
  | a :: as, b :: bs => decide (a < b) || (decide (a = b) && lexZ as bs)
theorem lexZ_total : ∀ a b : List Int, (lexZ a b || lexZ b a) = true
  | [], _ => rfl
  | _ :: _, [] => rfl
  | a :: as, b :: bs => by
    have ih := lexZ_total as bs
    unfold lexZ
    rcases Int.lt_trichotomy a b with h | h | h
    · simp [h]
    · subst h; simpa using ih
    · simp [h]
theorem lexZ_trans : ∀ a b c : List Int, lexZ a b = true → lexZ b c = true → lexZ a c = true
  | [], _, _, _, _ => rfl
  | _ :: _, [], _, h, _ => by cases h
  | _ :: _, _ :: _, [], _, h => by cases h
  | a :: as, b :: bs, c :: cs, h1, h2 => by
    unfold lexZ at *
    simp at *
    rcases h1 with h1 | ⟨rfl, h1⟩
    · rcases h2 with h2 | ⟨rfl, h2⟩
      · exact .inl (by omega)
      · exact .inl h1
    · rcases h2 with h2 | ⟨rfl, h2⟩
      · exact .inl h2
      · exact .inr ⟨rfl, lexZ_trans as bs cs h1 h2⟩
theorem lexZ_anti : ∀ a b : List Int, lexZ a b = true → lexZ b a = true → a = b
  | [], [], _, _ => rfl
  | [], _ :: _, _, h => by cases h
  | _ :: _, [], h, _ => by cases h
  | a :: as, b :: bs, h1, h2 => by
    unfold lexZ at *
    simp at *
    rcases h1 with h1 | ⟨rfl, h1⟩
    · rcases h2 with h2 | ⟨rfl, h2⟩
      · omega
      · omega
    · rcases h2 with h2 | ⟨_, h2⟩
      · omega
      · rw [lexZ_anti as bs h1 h2]; exact ⟨rfl, rfl⟩
theorem code_lex' {B : Int} : ∀ {a b : List Int}, a.length = b.length → TS.Bd B a → TS.Bd B b → TS.code B a ≤ TS.code B b → lexZ a b = true
  | [], _, _, _, _, _ => rfl
  | _ :: _, [], h, _, _, _ => by cases h
  | a :: as, b :: bs, hl, h1, h2, h => by
    have hl' : as.length = bs.length := by simpa using hl
    unfold lexZ
    rcases Int.lt_trichotomy a b with q | q | q
    · simp [q]
    · subst q
      have : TS.code B as ≤ TS.code B bs := by
        rcases (by omega : TS.code B bs < TS.code B as ∨ TS.code B as ≤ TS.code B bs) with z | z
        · have := (TS.code_same (B := B) (d := a) hl'.symm).mpr z
          omega
        · exact z
      simp [code_lex' hl' h1.tail h2.tail this]
    · have := TS.code_lt hl'.symm h2.tail h1.tail q
      omega
def srtT (kss : List (List Int)) : List (List Int) := (uniq kss).mergeSort lexZ
def intsT : D → Option (List Int)
  | .tup ds => intsD ds
  | _ => none
def tupsD : List D → Option (List (List Int))
  | [] => some []
  | d :: ds => (intsT d).bind fun k => (tupsD ds).map fun ks => k :: ks
def itD (ns : List Int) : D := .tup (ns.map D.int)
section
variable {X : Cx} {K : PySem.W.Frag} {G0 G G1 G' H H' : Hp} {σ : L2.St} {ρ : Env} {ws : List (V × Arg)} {a : Expr} {pos : Pos} {A : Fe}
theorem ints_same : ∀ {ds : List D} {ns : List Int}, intsD ds = some ns → ds = ns.map D.int
  | [], _, h => by cases h; rfl
  | d :: ds, _, h => by
    cases d <;> first | (cases h; done) | skip
    obtain ⟨ms, hm, rfl⟩ := Option.map_eq_some_iff.mp h
    rw [ints_same hm]; rfl
theorem ints_of : ∀ ns : List Int, intsD (ns.map D.int) = some ns
  | [] => rfl
  | n :: ns => by
    show (intsD (ns.map D.int)).map _ = _
    rw [ints_of ns]; rfl
theorem tups_rep : ∀ {ds : List D} {kss : List (List Int)} {xs : List V}, tupsD ds = some kss → RepFs K G ds xs → ∃ ks : List (Addr × List Int), xs = ks.map (fun p => V.ref p.1) ∧ ks.map (·.2) = kss ∧ ∀ p ∈ ks, RepF K G (itD p.2) (.ref p.1)
  | [], _, _, h, r => by cases h; rw [show _ = [] from r]; exact ⟨[], rfl, rfl, fun p hp => by cases hp⟩
  | d :: ds, _, _, h, ⟨x, r, e1, e2, e3⟩ => by
    obtain ⟨k, hk, h⟩ := Option.bind_eq_some_iff.mp h
    obtain ⟨kss, hks, rfl⟩ := Option.map_eq_some_iff.mp h
    obtain ⟨ks, q1, q2, q3⟩ := tups_rep hks e3
    cases d <;> first | (cases hk; done) | skip
    rename_i es
    have ee := ints_same (show intsD es = some k from hk)
    obtain ⟨b, ys, hb, hb2, hb3⟩ := e2
    subst hb
    refine ⟨(b, k) :: ks, by rw [e1, q1]; rfl, by rw [← q2]; rfl, fun p hp => ?_⟩
    rcases List.mem_cons.mp hp with rfl | hp
    · exact ⟨b, ys, rfl, hb2, by rw [← ee]; exact hb3⟩
    · exact q3 p hp
theorem reps_of : ∀ {ks : List (Addr × List Int)}, (∀ p ∈ ks, RepF K G (itD p.2) (.ref p.1)) → RepFs K G (ks.map fun p => itD p.2) (ks.map fun p => V.ref p.1)
  | [], _ => rfl
  | p :: ks, h => ⟨_, _, rfl, h p List.mem_cons_self, reps_of fun q hq => h q (List.mem_cons_of_mem _ hq)⟩
theorem it_sq {b : Addr} {ns : List Int} (e : Same G H) (r : RepF K G (itD ns) (.ref b)) : SqT K H b (ns.map V.int) := by
  obtain ⟨c, ys, hb, h2, h3⟩ := r
  cases hb
  have : ys = ns.map V.int := ints_rep (ints_of ns) h3
  subst this
  exact SqT.of (e _ _ h2)
/-- one length, no number below nought -/
def okT (kss : List (List Int)) : Bool := match kss with
  | [] => true
  | k :: _ => decide (1 ≤ k.length) && kss.all fun j => decide (j.length = k.length) && j.all fun i => decide (0 ≤ i)
def topZ (kss : List (List Int)) : Int := kss.foldl (fun m k => k.foldl (fun m i => if m < i then i else m) m) 0
def gSetSortT (u : W) : Option W := (listD u).bind fun ds => (tupsD ds).bind fun kss => if kss.length < 64 ∧ okT kss = true then some (1, .lst ((srtT kss).map itD)) else none
end
end Pv
set_option Elab.async false
set_option linter.all false
set_option maxRecDepth 100000
/-! P43: sorted(set(x)) of int tuples -/
namespace Pv
open PySem PySem.Spec PyProof.Rows L2 PySem.W
theorem bound_one : ∀ k : List Int, ∃ B : Int, ∀ i ∈ k, i < B
  | [] => ⟨0, fun i h => by cases h⟩
  | i :: k => by
    obtain ⟨B, hB⟩ := bound_one k
    refine ⟨max B (i + 1), fun j hj => ?_⟩
    rcases List.mem_cons.mp hj with rfl | hj
    · omega
    · have := hB j hj; omega
theorem bound_all : ∀ kss : List (List Int), ∃ B : Int, ∀ k ∈ kss, ∀ i ∈ k, i < B
  | [] => ⟨0, fun k h => by cases h⟩
  | k :: kss => by
    obtain ⟨B, hB⟩ := bound_all kss
    obtain ⟨C, hC⟩ := bound_one k
    refine ⟨max B C, fun j hj i hi => ?_⟩
    rcases List.mem_cons.mp hj with rfl | hj
    · have := hC i hi; omega
    · have := hB j hj i hi; omega
theorem okT_spec {kss : List (List Int)} (h : okT kss = true) : ∃ d B, 1 ≤ d ∧ ∀ k ∈ kss, k.length = d ∧ TS.Bd B k := by
  obtain ⟨B, hB⟩ := bound_all kss
  cases kss with
  | nil => exact ⟨1, 0, Nat.le_refl _, fun k h => by cases h⟩
  | cons k0 kss =>
    unfold okT at h
    simp only [Bool.and_eq_true, decide_eq_true_eq] at h
    refine ⟨k0.length, B, h.1, fun k hk => ?_⟩
    have := List.all_eq_true.mp h.2 k hk
    simp only [Bool.and_eq_true, decide_eq_true_eq] at this
    exact ⟨this.1, fun i hi => ⟨of_decide_eq_true (List.all_eq_true.mp this.2 i hi), hB k hk i hi⟩⟩
theorem srtT_eq {kss l : List (List Int)} (nd : l.Nodup) (m : ∀ k, k ∈ l ↔ k ∈ kss) (pw : l.Pairwise fun a b => lexZ a b = true) : l = srtT kss := by
  have p : l.Perm (srtT kss) := ((List.perm_ext_iff_of_nodup nd (uniq_nodup kss)).mpr fun k => by rw [uniq_mem]; exact m k).trans (List.mergeSort_perm _ _).symm
  exact p.eq_of_pairwise (le := fun a b => lexZ a b = true) (fun a b _ _ h1 h2 => lexZ_anti a b h1 h2) pw (List.pairwise_mergeSort lexZ_trans lexZ_total _)
section
variable {X : Cx} {K : PySem.W.Frag} {a : Expr} {pos : Pos} {A : Fe}
theorem g_setSortT : Op1 K (fun x H Q => rSortSetT K [x] H Q) gSetSortT := by
  intro G H u x Fu w e ru hw
  obtain ⟨ds, hd, hw⟩ := Option.bind_eq_some_iff.mp hw
  obtain ⟨kss, hk, hw⟩ := Option.bind_eq_some_iff.mp hw
  obtain ⟨a, xs, rfl, h1, h2⟩ := list_rep e hd ru
  obtain ⟨ks, rfl, q2, q3⟩ := tups_rep hk h2
  split at hw
  · rename_i hc
    cases hw
    obtain ⟨d, B, hd1, hB⟩ := okT_spec hc.2
    have hm : ∀ p ∈ ks, p.2 ∈ kss := fun p hp => by rw [← q2]; exact List.mem_map_of_mem hp
    refine fun Q q => ⟨a, ks, d, B, rfl, h1, fun p hp => it_sq e (q3 p hp), by rw [← q2, List.length_map] at hc; exact hc.1, hd1, fun p hp => hB _ (hm p hp), fun p L' hp sub all nd pw => ?_⟩
    have el : L'.map (·.2) = srtT kss := by
      refine srtT_eq nd (fun k => ⟨fun hk => ?_, fun hk => ?_⟩) ?_
      · obtain ⟨r, hr, rfl⟩ := List.mem_map.mp hk
        exact hm r (sub r hr)
      · rw [← q2] at hk
        obtain ⟨r, hr, rfl⟩ := List.mem_map.mp hk
        exact all r hr
      · rw [List.pairwise_map]
        refine List.Pairwise.imp_of_mem (fun {r t} hr ht h => ?_) pw
        have b1 := hB _ (hm r (sub r hr))
        have b2 := hB _ (hm t (sub t ht))
        exact code_lex' (by rw [b1.1, b2.1]) b1.2 b2.2 h
    have rr : ∀ G', Same G G' → RepFs K G' ((srtT kss).map itD) (L'.map fun q => V.ref q.1) := fun G' s => by
      have := reps_of (K := K) (G := G') (ks := L') fun p hp => RepF.mono s _ _ (q3 p (sub p hp))
      rw [← el, List.map_map]
      exact this
    have g := Grow.newO (o := .lst (L'.map fun q => V.ref q.1)) e hp trivial
    exact q _ _ _ [p] g ⟨p, _, [], rfl, upd_same, rfl, ROs.of_F (rr _ g.gg)⟩
  · cases hw
theorem e_setSortT {p p2 q : Pos} (hc : X.calm = true) (hu : X.A.units + 65 < cLine) (hg : Gl X "sorted") (hm : X.mg "sorted" = none) (hg2 : Gl X "set") (hm2 : X.mg "set" = none) (ha : OkE X a A)
    (hs : starEach [a] X.env = (false, eval a X.env) :: starEach [] X.env := by rfl) (na : starEach [a] X.env = [(false, eval a X.env)] := by rfl) (nb : starEach [.Call (.Name "set" p2) [a] [] q] X.env = (false, eval (.Call (.Name "set" p2) [a] [] q) X.env) :: starEach [] X.env := by rfl) :
    OkE X (.Call (.Name "sorted" p) [.Call (.Name "set" p2) [a] [] q] [] pos) (pCall (on1 gSetSortT) (aCons A aNil)) :=
  PE.imp (pe_sortedSetT hc hu hg hm hg2 hm2 (a_cons ha a_nil hs) na nb) (opN_imp (opN_1 g_setSortT))
end
end Pv
set_option Elab.async false
set_option linter.all false
set_option maxRecDepth 100000
/-! P44: list * int; min of a list of pairs of ints -/
namespace Pv
open PySem PySem.Spec PyProof.Rows L2 PySem.W
section
variable {X : Cx} {K : PySem.W.Frag} {G0 G G1 G' H H' : Hp} {a : Expr} {pos : Pos} {A : Fe}
def gMulL : W → W → Option W
  | (k, .lst ds), (_, .int j) => if k ≤ 1 ∧ 0 ≤ j ∧ j ≤ 1000 ∧ ds.length ≤ 1000 then some (1, .lst (List.replicate j.toNat ds).flatten) else none
  | _, _ => none
theorem g_mulL : Op2 K rRep gMulL := by
  intro G H u v x y Fu Fv w e ru rv hw
  unfold gMulL at hw
  split at hw
  · split at hw
    · rename_i hk
      cases hw
      obtain rfl := rv.int
      obtain ⟨a, xs, rfl, h1, h2⟩ := ru.lst1 e hk.1
      refine Res.lst e (h2.flat _) fun Q q => ⟨a, _, xs, rfl, rfl, h1, by omega, by omega, ?_, q⟩
      rw [h2.len]
      refine Nat.le_trans (Nat.mul_le_mul hk.2.2.2 (show _ ≤ 1000 by omega)) (by decide)
    · cases hw
  · cases hw
/-! ### min -/
def ipD (p : Int × Int) : D := .tup [.int p.1, .int p.2]
def ipP (p : Int × Int) : PyData := .tuple [.int p.1, .int p.2]
def ltP (p q : Int × Int) : Bool := decide (p.1 < q.1 ∨ (p.1 = q.1 ∧ p.2 < q.2))
def minP (p : Int × Int) (r : List (Int × Int)) : Int × Int := r.foldl (fun a y => if ltP y a = true then y else a) p
def prOf : D → Option (Int × Int)
  | .tup [.int a, .int b] => some (a, b)
  | _ => none
def prsD : List D → Option (List (Int × Int))
  | [] => some []
  | d :: ds => (prOf d).bind fun p => (prsD ds).map fun ps => p :: ps
theorem prOf_eq {d : D} {p : Int × Int} (h : prOf d = some p) : d = ipD p := by
  unfold prOf at h
  split at h
  · cases h; rfl
  · cases h
theorem prsD_eq : ∀ {ds : List D} {ps : List (Int × Int)}, prsD ds = some ps → ds = ps.map ipD
  | [], _, h => by cases h; rfl
  | d :: ds, _, h => by
    obtain ⟨p, hp, h⟩ := Option.bind_eq_some_iff.mp h
    obtain ⟨ps, hps, rfl⟩ := Option.map_eq_some_iff.mp h
    rw [prOf_eq hp, prsD_eq hps]; rfl
theorem prsD_map : ∀ ps : List (Int × Int), prsD (ps.map ipD) = some ps
  | [] => rfl
  | p :: ps => by
    show (some p).bind (fun p => (prsD (ps.map ipD)).map fun ps => p :: ps) = _
    rw [prsD_map ps]; rfl
theorem toPys_ip : ∀ xs : List (Int × Int), toPys (xs.map ipD) = some (xs.map ipP)
  | [] => rfl
  | x :: xs => by
    show (toPy (ipD x)).bind _ = _
    have : toPy (ipD x) = some (ipP x) := rfl
    rw [this]
    show (toPys (xs.map ipD)).map _ = _
    rw [toPys_ip xs]; rfl
theorem lt_ip (p q : Int × Int) : dataLt (ipP p) (ipP q) = ltP p q := by
  have e : dataLt (ipP p) (ipP q) = (decide ((1 : Int) < 1) || (!decide ((1 : Int) < 1) && (decide (p.1 < q.1) || (!decide (q.1 < p.1) && (decide ((1 : Int) < 1) || (!decide ((1 : Int) < 1) && (decide (p.2 < q.2) || (!decide (q.2 < p.2) && (decide ((0 : Int) < 0) || (!decide ((0 : Int) < 0) && false)))))))))) := rfl
  rw [e]
  unfold ltP
  rw [Bool.eq_iff_iff]
  simp
  omega
theorem minD_ip : ∀ (r : List (Int × Int)) (p : Int × Int), minD (ipP p) (r.map ipP) = ipP (minP p r)
  | [], _ => rfl
  | y :: r, p => by
    show minD (if dataLt (ipP y) (ipP p) then ipP y else ipP p) (r.map ipP) = ipP (minP (if ltP y p = true then y else p) r)
    rw [lt_ip]
    split
    · exact minD_ip r y
    · exact minD_ip r p
def rMinG (K : PySem.W.Frag) : List V → Hp → VK → Prop := fun vs H Q => ∃ (G : Hp) (p : Int × Int) (r : List (Int × Int)) (a : Addr) (xs : List V), vs = [V.ref a] ∧ Same G H ∧ SqL K H a xs ∧ RepFs K G ((p :: r).map ipD) xs ∧
  ∀ x, RepF K G (ipD (minP p r)) x → Q x H
theorem depth_ip (r : List (Int × Int)) : PyData.depthAll (r.map ipP) ≤ 2 := by
  induction r with
  | nil => exact Nat.zero_le _
  | cons p r ih =>
    rw [List.map_cons]
    simp only [PyData.depthAll, ipP, PyData.depth]
    omega
theorem rep_at : ∀ {ds : List D} {xs : List V} {i : Nat} {x : V}, RepFs K G ds xs → xs[i]? = some x → ∃ d, ds[i]? = some d ∧ RepF K G d x
  | [], _, i, x, h, e => by rw [show _ = [] from h] at e; simp at e
  | d :: ds, _, 0, x, ⟨y, t, h1, h2, h3⟩, e => by subst h1; simp at e; subst e; exact ⟨d, rfl, h2⟩
  | d :: ds, _, i + 1, x, ⟨y, t, h1, h2, h3⟩, e => by
    subst h1
    obtain ⟨d', q1, q2⟩ := rep_at (i := i) h3 (by simpa using e)
    exact ⟨d', by simpa using q1, q2⟩
theorem vals_at : ∀ {xs : List V} {us : List Value} {i : Nat} {u : Value}, Vals xs us → us[i]? = some u → ∃ x, xs[i]? = some x ∧ RelV x u
  | _, _, i, u, .nil, e => by simp at e
  | _, _, 0, u, .cons r t, e => by simp at e; subst e; exact ⟨_, rfl, r⟩
  | _, _, i + 1, u, .cons r t, e => by
    obtain ⟨x, h1, h2⟩ := vals_at (i := i) t (by simpa using e)
    exact ⟨x, by simpa using h1, h2⟩
theorem cr_minG (hc : X.calm = true) (hu : X.A.units + 64 < cLine) : CallR X (.builtin "min") (rMinG X.K) := by
  intro pins s σ H vs us Q I r h
  obtain ⟨G, p, r', a, xs, rfl, e, hs, hr, q⟩ := h
  obtain ⟨its, rv, hl, _⟩ := I.list hs
  rw [Vals.ref1 r]
  have hd := dps_of e _ _ xs (toPys_ip (p :: r')) hr
  obtain ⟨as, hR⟩ := Dp.readsAll I _ _ its hd rv
  have al : AlikeAll (ipP p :: r'.map ipP) := by
    refine ⟨fun x hx y hy => ?_, fun x hx => ?_⟩
    · rw [← List.map_cons] at hx hy
      obtain ⟨x', _, rfl⟩ := List.mem_map.mp hx
      obtain ⟨y', _, rfl⟩ := List.mem_map.mp hy
      rfl
    · rw [← List.map_cons] at hx
      obtain ⟨x', _, rfl⟩ := List.mem_map.mp hx
      intro z; cases z
  have hdep := depth_ip (p :: r')
  refine min_list_data (I.ok.hd hc) hl.isList (vs := its.toArray) hR al (by rw [← List.map_cons]; omega) fun i v h' tk bs hv hm hk => ?_
  have hv' : its[i]? = some v := by simpa using hv
  obtain ⟨x, hx, rx⟩ := vals_at rv hv'
  obtain ⟨d, hd1, hd2⟩ := rep_at hr hx
  obtain ⟨c, _, rfl⟩ : ∃ c, (p :: r')[i]? = some c ∧ ipD c = d := by
    rw [List.getElem?_map] at hd1
    exact Option.map_eq_some_iff.mp hd1
  obtain ⟨bs', hR'⟩ := Dp.reads I (ipP c) x v (dp_of e _ _ _ rfl hd2) rx
  have hdet := (reads_det (fun b o ho _ => hk b o ho) hR' hm).1
  rw [minD_ip] at hdet
  have hc : minP p r' = c := by
    unfold ipP at hdet
    injection hdet with hdet
    injection hdet with h1 h2
    injection h2 with h2 h3
    injection h1 with h1
    injection h2 with h2
    exact Prod.ext h1 h2
  exact ⟨x, H, I.kept hk, rx, q x (by rw [hc]; exact hd2)⟩
def gMinP : W → Option W := fun u => (listD u).bind fun ds => (prsD ds).bind fun ps => match ps with
  | [] => none
  | p :: r => some (0, ipD (minP p r))
theorem g_minP : Op1 K (fun x H Q => rMinG K [x] H Q) gMinP := by
  intro G H u x Fu w e ru hw
  obtain ⟨ds, hd, hw⟩ := Option.bind_eq_some_iff.mp hw
  obtain ⟨ps, hp, hw⟩ := Option.bind_eq_some_iff.mp hw
  cases ps with
  | nil => cases hw
  | cons p r =>
    cases hw
    obtain ⟨a, xs, rfl, h1, h2⟩ := list_rep e hd ru
    rw [prsD_eq hp] at h2
    refine fun Q q => ⟨G, p, r, a, xs, rfl, e, h1, h2, fun x hx => q x H G [] (Grow.refl e) ⟨hx, rfl⟩⟩
theorem e_minP {p : Pos} (hc : X.calm = true) (hu : X.A.units + 64 < cLine) (hg : Gl X "min") (hm : X.mg "min" = none) (ha : OkE X a A) (hs : starEach (a :: []) X.env = (false, eval a X.env) :: starEach [] X.env := by rfl) : OkE X (.Call (.Name "min" p) [a] [] pos) (pCall (on1 gMinP) (aCons A aNil)) :=
  e_bi (cr_minG hc hu) (opN_1 g_minP) hg hm (by rfl) (a_cons ha a_nil hs) (hs := hs)
end
end Pv
set_option Elab.async false
set_option linter.all false
set_option maxRecDepth 100000
/-! P45: expressions that change a slot: d.pop(k) as the last argument of calls; x[j], y = a, b -/
namespace Pv
open PySem PySem.Spec PyProof.Rows L2 PySem.W
abbrev FeX := Env → Option (Arg × Env)
abbrev FaX := Env → Option (List Arg × Env)
def tEX (K : PySem.W.Frag) (f : FeX) : TE := fun σ H Q => ∃ G0 ρ ws a ρ', SI K G0 σ ρ ws H ∧ f ρ = some (a, ρ') ∧ ∀ v H', SI K G0 σ ρ' ((v, a) :: ws) H' → Q v H'
def tAX (K : PySem.W.Frag) (f : FaX) : TA := fun σ H Q => ∃ G0 ρ ws as ρ', SI K G0 σ ρ ws H ∧ f ρ = some (as, ρ') ∧ ∀ vs H', vs.length = as.length → SI K G0 σ ρ' ((vs.zip as).reverse ++ ws) H' → Q vs H'
def OkEX (X : Cx) (e : Expr) (f : FeX) : Prop := PE X e (tEX X.K f)
def OkAX (X : Cx) (es : List Expr) (f : FaX) : Prop := PA X es (tAX X.K f)
section
variable {X : Cx} {K : PySem.W.Frag} {G0 G G1 G' H H' : Hp} {σ : L2.St} {ρ : Env} {ws : List (V × Arg)} {F F1 F2 : List Addr} {e a b c tg : Expr} {es : List Expr} {pos : Pos} {A B C : Fe}
/-- the object of slot i is written anew, what waits keeps waiting -/
theorem Si.updW {i : Nat} {p : Addr} {o : HO} {w' : W} {v : V} {Fa Fb : List Addr} (I : Si K G0 σ ρ ws H G (Fa ++ [p] ++ Fb) F2) (ho : isOwn o)
    (hs : ∀ (G' H' : Hp) (w' : W) (Fi' : List Addr), Same G G' → (∀ b ∈ Fa ++ Fb, H' b = H b) → RO K G' H' w'.1 w'.2 v Fi' → RSl K G' H' σ (ρ.set i (some w')) (Fa ++ Fi' ++ Fb))
    (r : RO K G (upd H p o) w'.1 w'.2 v [p]) : Si K G0 σ (ρ.set i (some w')) ws (upd H p o) G (Fa ++ [p] ++ Fb) F2 := by
  have n := I.nd
  simp only [List.nodup_append, List.mem_append, List.mem_singleton] at n
  obtain ⟨⟨⟨n1, n2, n3⟩, n4, n5⟩, n6, n7⟩ := n
  have hp : ∀ b, b ∈ Fa ∨ b ∈ Fb → b ≠ p := fun b hb z => by
    subst z
    rcases hb with hb | hb
    · exact n3 b hb b rfl rfl
    · exact n5 b (.inr rfl) b hb rfl
  have hq : ∀ b ∈ F2, b ≠ p := fun b hb z => by
    subst z
    exact n7 b (.inl (.inr rfl)) b hb rfl
  have hG : G p = none := I.fr p (by simp)
  refine ⟨I.ex0, fun b u q => ?_, hs G _ w' [p] (Same.refl _) (fun b hb => upd_ne (hp b (by simpa using hb))) r, ?_, I.nd, I.fr, fun b u q1 q2 => ?_, by rw [List.length_set]; exact I.ln⟩
  · rw [upd_ne (ne_of_none q hG)]; exact I.ex b u q
  · refine RWs.env ws F2 (fun j v' w1 h1 h2 => ⟨h1, ?_⟩) (RWs.mono (Same.refl _) ws F2 (fun b hb => upd_ne (hq b hb)) I.wv)
    by_cases e : i = j
    · subst e
      rw [List.getElem?_set_self (List.getElem?_eq_some_iff.mp h2).1]; exact ⟨_, rfl⟩
    · rw [List.getElem?_set_ne e, h2]; exact ⟨_, rfl⟩
  · by_cases e : b = p
    · subst e; rw [upd_same] at q1; cases q1; exact absurd ho q2
    · rw [upd_ne e] at q1; exact I.tu b u q1 q2
/-! ### d.pop(k) -/
def dropD (kvs : List (List Key × D)) (k : List Key) : List (List Key × D) := kvs.filter fun p => decide (p.1 ≠ k)
theorem drop_rep (k : List Key) : ∀ {kvs : List (List Key × D)} {xs : List (List Key × V)}, RepFk K G kvs xs → RepFk K G (dropD kvs k) (dropK xs k)
  | [], _, h => by rw [show _ = [] from h]; exact (rfl : ([] : List (List Key × V)) = [])
  | (k', d') :: r, _, ⟨x, xs, h1, h2, h3⟩ => by
    subst h1
    have ih := drop_rep k h3
    unfold dropD dropK at *
    by_cases e : k' = k
    · rw [List.filter_cons_of_neg (by simpa using e), List.filter_cons_of_neg (by simpa using e)]; exact ih
    · rw [List.filter_cons_of_pos (by simpa using e), List.filter_cons_of_pos (by simpa using e)]; exact ⟨x, _, rfl, h2, ih⟩
theorem drop_head {k : Key} : ∀ {xs : List (List Key × V)}, (∀ p ∈ xs, ∃ k, p.1 = [k]) → dropK (xs.map fun p => (p.1.headD (.inl 0), p.2)) k = (dropK xs [k]).map fun p => (p.1.headD (.inl 0), p.2)
  | [], _ => rfl
  | (k', y) :: xs, h => by
    have ih := drop_head (k := k) fun p hp => h p (List.mem_cons_of_mem _ hp)
    obtain ⟨j, hj⟩ := h _ List.mem_cons_self
    simp only at hj
    subst hj
    unfold dropK at *
    rw [List.map_cons]
    by_cases e : j = k
    · rw [List.filter_cons_of_neg (by simpa using e), List.filter_cons_of_neg (by simpa using e)]; exact ih
    · rw [List.filter_cons_of_pos (by simpa using e), List.filter_cons_of_pos (by simpa using e), List.map_cons, ih]
theorem drop_ok {t : Bool} {xs : List (List Key × V)} (k : List Key) (ok : keysOk t xs) : keysOk t (dropK xs k) := fun ht p hp => ok ht p (List.mem_filter.mp hp).1
/-- x.pop(k), x a dict in slot i -/
def pDPop (i : Nat) (B : Fe) : FeX := fun ρ => (val B ρ).bind fun u => match (ρ[i]?).join with
  | some (1, .dct false kvs) => (keyD false u.2).bind fun ks => (valD kvs ks).map fun d => (.v 0 d, ρ.set i (some (1, .dct false (dropD kvs ks))))
  | _ => none
theorem x_dpop {i : Nat} {x : Str} {p apos cpos : Pos} (hb : OkE X b B) (hN : X.N[i]? = some x := by rfl) (hv : Vis X.env.scope x := by first | exact Or.inl rfl | exact Or.inr (Or.inl rfl) | exact Or.inr (Or.inr rfl)) (hd : (x == ("__debug__" : Str)) = false := by decide) (hcd : (x == ("__classdict__" : Str)) = false := by decide)
    (m : M1 X (.Name x p) "pop" apos b cpos := by exact ⟨rfl, rfl, rfl, rfl⟩) : OkEX X (.Call (.Attribute (.Name x p) "pop" apos) [b] [] cpos) (pDPop i B) := PE.imp (pe_dpop1 (pe_var hN hv hd hcd) hb m) fun σ H Q ⟨G0, ρ, ws, r, ρ', I, hf, q⟩ => by
  obtain ⟨u, hu, hf⟩ := Option.bind_eq_some_iff.mp hf
  split at hf
  · rename_i kvs hw
    obtain ⟨ks, hks, hf1⟩ := Option.bind_eq_some_iff.mp hf
    obtain ⟨d, hd, hf2⟩ := Option.map_eq_some_iff.mp hf1
    clear hf hf1
    cases hf2
    obtain ⟨κ, hκ, rfl⟩ := Option.map_eq_some_iff.mp hks
    obtain ⟨a2, ha2, hg2⟩ := val_some hu
    have hρ := join_some hw
    have hx : ∃ p, σ[i]? = some (some (.ref p)) ∧ IsD H p := by
      obtain ⟨G, F1, F2, J⟩ := I
      obtain ⟨v, Fi, h1, h2, _⟩ := J.sl.at hρ
      obtain ⟨p, xs, rfl, h3, _⟩ := RO.dct1 J.ex (Nat.le_refl 1) h2
      exact ⟨p, h1, .inl ⟨_, h3⟩⟩
    obtain ⟨p, hp, hD⟩ := hx
    refine ⟨.ref p, hp, p, rfl, hD, G0, ρ, ws, a2, I, ha2, fun z H2 I2 => ?_⟩
    obtain ⟨G, F1, F2, J⟩ := I2
    obtain ⟨Fz, rz⟩ := J.top hg2
    obtain rfl := keyK_rep hκ rz
    obtain ⟨F3, _, J1⟩ := J.drop
    obtain ⟨v, Fa, Fi, Fb, e1, h1, h2, h3⟩ := J1.slot hρ
    rw [hp] at h1
    cases h1
    obtain ⟨p', xs, F', q0, h4, hok, rfl, h5⟩ := h2
    cases q0
    subst e1
    obtain ⟨h6, h7⟩ := ROk.to_F h5
    subst h7
    obtain ⟨y, hy, ry⟩ := valD_some h6 hd
    refine ⟨_, κ, y, h4, rfl, by rw [valV_head κ xs (hok rfl)]; exact hy, ?_⟩
    rw [drop_head (hok rfl)]
    have J2 := Si.updW (w' := (1, .dct false (dropD kvs [κ]))) (o := hoD false (dropK xs [κ])) J1 (isOwn_hoD false _) h3 ⟨p, _, [], rfl, upd_same, drop_ok _ hok, rfl, ROk.of_F (drop_rep [κ] h6)⟩
    exact q y _ (J2.pushF ry).SI
  · cases hf
/-! ### arguments, calls, names -/
def aConsX (A : Fe) (B : FaX) : FaX := fun ρ => (A ρ).bind fun a => (B ρ).map fun p => (a :: p.1, p.2)
def aOneX (A : FeX) : FaX := fun ρ => (A ρ).map fun p => ([p.1], p.2)
theorem x_cons {B : FaX} (ha : OkE X e A) (hr : OkAX X es B) (hs : starEach (e :: es) X.env = (false, eval e X.env) :: starEach es X.env := by rfl) : OkAX X (e :: es) (aConsX A B) := PA.imp (pa_cons ha hr hs) fun σ H Q ⟨G0, ρ, ws, as, ρ', I, hf, q⟩ => by
  obtain ⟨x, hx, hf⟩ := Option.bind_eq_some_iff.mp hf
  obtain ⟨⟨xs, ρ1⟩, hxs, hf⟩ := Option.map_eq_some_iff.mp hf
  cases hf
  refine ⟨G0, ρ, ws, x, I, hx, fun v H1 I1 => ⟨G0, ρ, (v, x) :: ws, xs, _, I1, hxs, fun vs H2 hl I2 => ?_⟩⟩
  refine q (v :: vs) H2 (by rw [List.length_cons, List.length_cons, hl]) ?_
  rw [List.zip_cons_cons, List.reverse_cons, List.append_assoc]
  exact I2
theorem x_one {B : FeX} (ha : OkEX X e B) (hs : starEach [e] X.env = (false, eval e X.env) :: starEach [] X.env := by rfl) : OkAX X [e] (aOneX B) := PA.imp (pa_cons ha pa_nil hs) fun σ H Q ⟨G0, ρ, ws, as, ρ', I, hf, q⟩ => by
  obtain ⟨⟨x, ρ1⟩, hx, hf⟩ := Option.map_eq_some_iff.mp hf
  cases hf
  exact ⟨G0, ρ, ws, x, _, I, hx, fun v H1 I1 => q [v] H1 rfl I1⟩
def pFnX (m : List D → Option W) (dd : List D) (A : FaX) : FeX := fun ρ => (A ρ).bind fun p => (getAll p.2 p.1).bind fun us => (m (us.map (·.2) ++ dd)).map fun w => (.v w.1 w.2, p.2)
theorem fnX_imp {m : List D → Option W} {dd : List D} {dvs : List V} {B : FaX} (cl : ∀ ds w, m ds = some w → cleanD w.1 w.2 = true) (hd : ∀ H, RepFs K H dd dvs) (σ : L2.St) (H : Hp) (Q : VK) (h : tEX K (pFnX m dd B) σ H Q) : tCall (spD K m) dvs E0 (tAX K B) σ H Q := by
  obtain ⟨G0, ρ, ws, a, ρ', I, hf, q⟩ := h
  obtain ⟨⟨as, ρ1⟩, has, hf⟩ := Option.bind_eq_some_iff.mp hf
  obtain ⟨us, hus, hf⟩ := Option.bind_eq_some_iff.mp hf
  obtain ⟨w, hw, hf⟩ := Option.map_eq_some_iff.mp hf
  cases hf
  refine ⟨G0, ρ, ws, as, _, I, has, fun vs H1 hl I1 => ?_⟩
  obtain ⟨G, F1, F2, J⟩ := I1
  have rr := row_F J.ex (J.rows hl hus)
  refine ret_res (t := fun Q => spD K m (vs ++ dvs) H1 Q E0) J.ex J.tu (cl _ _ hw) (fun Q q => ⟨_, w, rr.app (hd H1), hw, q⟩) Q fun v H' G' F' gr rv => ?_
  obtain ⟨F2', J'⟩ := Si.dropN _ J
  exact q v H' (J'.push gr rv).SI
theorem x_fn {k : Nat} {x : Str} {m : List D → Option W} {dd : List D} {B : FaX} {p : Pos} (F : FnD X k x m dd) (hr : Room k X.A) (hg : Gl X x) (ha : OkAX X (e :: es) B) (hx : Passes CX0 X E0) (hdb : (x == ("__debug__" : Str)) = false := by decide)
    (he : starEach (e :: es) X.env = (false, eval e X.env) :: starEach es X.env := by rfl) (hpl : (backTo pos (starEach es X.env)).any (·.1) = false := by rfl) : OkEX X (.Call (.Name x p) (e :: es) [] pos) (pFnX m dd B) := by
  obtain ⟨f, fd, ps, dvs, dus, h1, h2, h3, h4, h5, h6⟩ := F.ex
  exact PE.imp (pe_call h1 hr hg h2 h3 h4 h5 hx ha hdb he hpl) (fnX_imp F.cl h6)
def sAsgX (i : Nat) (A : FeX) : Fs := fun ρ => (A ρ).bind fun p => (putArg i p.1 p.2).map fun ρ' => (.nx, ρ')
theorem asgX_imp {i : Nat} {D : Ends} {A : FeX} (σ : L2.St) (H : Hp) (h : tS K (sAsgX i A) D σ H) : tAsg (tEX K A) (gName i) D σ H := by
  obtain ⟨G0, ρ, fl, ρ', I, hf, post⟩ := h
  obtain ⟨⟨a, ρ1⟩, ha, hf⟩ := Option.bind_eq_some_iff.mp hf
  obtain ⟨ρ2, hp, hf⟩ := Option.map_eq_some_iff.mp hf
  cases hf
  cases a with
  | r j => cases hp
  | v k d =>
    unfold putArg at hp
    simp only at hp
    split at hp
    · rename_i hi
      cases hp
      exact ⟨G0, ρ, [], _, _, I, ha, fun v H1 I1 => post _ _ (I1.store hi)⟩
    · cases hp
theorem s_asgX {i : Nat} {x : Str} {pos' : Pos} {A : FeX} (hN : X.N.Nodup) (he : OkEX X e A) (hi : X.N[i]? = some x := by rfl) (hx : Loc X.env.scope x := by first | exact Or.inl rfl | exact Or.inr rfl) (hs : swapsWith e (some (.Name x pos')) pos.line X.env = pure false := by rfl)
    (hf : X.fn x = true ∨ X.env.scope.names.lookup x = some .local := by first | exact .inl rfl | exact .inr rfl) : OkS X (.Assign [.Name x pos'] e pos) (sAsgX i A) := PS.imp (ps_set hN hi hx he hs hf) fun D σ H h => asgX_imp σ H h
/-! ### x[j], y = a, b -/
def sParS (i : Nat) (B : Fe) (j : Nat) (A : Fa) : Fs := fun ρ => (A ρ).bind fun as => (ownAll as).bind fun ds => match ds with
  | [d1, d2] => ((ρ[i]?).join).bind fun w => match w with
    | (1, .lst es) => (val B ρ).bind fun u => match u.2 with
      | .int n => (setAt es n d1).bind fun es' => (putArg j (.v 0 d2) (ρ.set i (some (1, .lst es')))).map fun ρ' => (.nx, ρ')
      | _ => none
    | _ => none
  | _ => none
theorem s_parS {i j : Nat} {x y : Str} {A : Fa} {p py tpos pt pt2 : Pos} {kt k2 : _} (hc : X.calm = true) (hnd : X.N.Nodup) (ha : OkA X es A) (hb : OkE X b B) (hN : X.N[i]? = some x := by rfl) (hv : Vis X.env.scope x := by first | exact Or.inl rfl | exact Or.inr (Or.inl rfl) | exact Or.inr (Or.inr rfl)) (hd : (x == ("__debug__" : Str)) = false := by decide) (hcd : (x == ("__classdict__" : Str)) = false := by decide)
    (hj : X.N[j]? = some y := by rfl) (hx : Loc X.env.scope y := by first | exact Or.inl rfl | exact Or.inr rfl) (hfn : X.fn y = true ∨ X.env.scope.names.lookup y = some .local := by first | exact .inl rfl | exact .inr rfl)
    (hass : ∀ v, assign (.Subscript (.Name x p) b tpos) X.env v = (do
      let ov ← holding [v] (eval (.Name x p) X.env)
      let iv ← holding [v, ov] (eval b X.env)
      standAt tpos
      holding [v, ov, iv] (setItem ov iv v)
      release [v, ov, iv] []) := by exact fun _ => rfl)
    (h2 : (assignEach [.Subscript (.Name x p) b tpos, .Name y py] X.env).map (·.2) = assign (.Subscript (.Name x p) b tpos) X.env :: (assignEach [.Name y py] X.env).map (·.2) := by rfl)
    (h3 : (assignEach [.Name y py] X.env).map (·.2) = assign (.Name y py) X.env :: (assignEach [] X.env).map (·.2) := by rfl)
    (hn : (assignEach [.Subscript (.Name x p) b tpos, .Name y py] X.env).length = 2 := by rfl) (hst : (assignEach [.Subscript (.Name x p) b tpos, .Name y py] X.env).findIdx? (·.1) = none := by rfl)
    (hs : swapsWithSole [.Tuple [.Subscript (.Name x p) b tpos, .Name y py] kt pt] (.Tuple es k2 pt2) pos.line X.env = pure false := by rfl)
    (hw : swappedStores [.Tuple [.Subscript (.Name x p) b tpos, .Name y py] kt pt] (.Tuple es k2 pt2) X.env = pure none := by rfl)
    (h1 : (assignEach [.Tuple [.Subscript (.Name x p) b tpos, .Name y py] kt pt] X.env).map (·.2) = [assign (.Tuple [.Subscript (.Name x p) b tpos, .Name y py] kt pt) X.env] := by rfl) :
    OkS X (.Assign [.Tuple [.Subscript (.Name x p) b tpos, .Name y py] kt pt] (.Tuple es k2 pt2) pos) (sParS i B j A) :=
  PS.imp (ps_asg (pe_tup ha) (pg_tup hc (pgs_cons (pg_sub (pe_var hN hv hd hcd) hb set_list hass) (pgs_cons (pg_name hnd hj hx hfn) pgs_nil h3) h2) hn hst) hs hw h1) fun De σ H ⟨G0, ρ, fl, ρ', I, hf, post⟩ => by
  obtain ⟨as, has, hf⟩ := Option.bind_eq_some_iff.mp hf
  obtain ⟨ds, hds, hf⟩ := Option.bind_eq_some_iff.mp hf
  split at hf
  · rename_i d1 d2
    obtain ⟨w, hw, hf⟩ := Option.bind_eq_some_iff.mp hf
    split at hf
    · rename_i zs
      obtain ⟨u, hu, hf⟩ := Option.bind_eq_some_iff.mp hf
      obtain ⟨l, c⟩ := u
      cases c <;> first | (cases hf; done) | skip
      rename_i n
      obtain ⟨es', hes, hf⟩ := Option.bind_eq_some_iff.mp hf
      obtain ⟨ρ2, hput, hf⟩ := Option.map_eq_some_iff.mp hf
      cases hf
      obtain ⟨m, hm, rfl⟩ := Option.map_eq_some_iff.mp hes
      obtain ⟨a2, ha2, hg2⟩ := val_some hu
      have hρ := join_some hw
      have hlen : as.length = 2 := by
        have : ∀ (as : List Arg) (ds : List D), ownAll as = some ds → as.length = ds.length := by
          intro as
          induction as with
          | nil => intro ds h; cases h; rfl
          | cons a as ih => intro ds h; cases a with
            | r q => cases h
            | v q d =>
              obtain ⟨r, hr, rfl⟩ := Option.map_eq_some_iff.mp h
              rw [List.length_cons, List.length_cons, ih r hr]
        exact this _ _ hds
      refine ⟨G0, ρ, [], as, I, has, fun vs H1 hl I1 => ⟨by rw [hl, hlen]; decide, fun q hq => ?_⟩⟩
      obtain ⟨G, F1, F2, J⟩ := I1
      obtain ⟨F3, J⟩ := Si.perm ((List.reverse_perm _).append_right []) J
      obtain ⟨G1, F4, J1, e1, r1⟩ := Si.freezeN as vs [d1, d2] hl hds J
      have g := Grow.newF (o := .tup vs) J1.ex hq
      have J2 := J1.grow g
      obtain ⟨v1, t1, rfl, rv1, v2, t2, rfl, rv2, rfl⟩ := RepFs.mono g.gg _ _ r1
      refine ⟨q, _, rfl, SqT.of upd_same, rfl, v1, _, rfl, ?_⟩
      have hx : ∃ p, σ[i]? = some (some (.ref p)) := by
        obtain ⟨v, Fi, h1, h2, _⟩ := J2.sl.at hρ
        obtain ⟨p, xs, rfl, h3, _⟩ := RO.lstN J2.ex h2
        exact ⟨p, h1⟩
      obtain ⟨p, hp⟩ := hx
      refine ⟨.ref p, hp, upd G1 q (.tup [v1, v2]), ρ, [], a2, J2.up, ha2, fun z H2 I2 => ?_⟩
      obtain ⟨G3, F5, F6, J3⟩ := I2
      obtain ⟨Fz, rz⟩ := J3.top hg2
      obtain rfl := RO.int rz
      obtain ⟨F7, _, J4⟩ := J3.drop
      obtain ⟨v, Fa, Fi, Fb, e2, q1, q2, q3⟩ := J4.slot hρ
      rw [hp] at q1
      cases q1
      obtain ⟨p', xs, F', q0, h4, rfl, h5⟩ := q2
      cases q0
      subst e2
      obtain ⟨h6, h7⟩ := ROs.to_F h5
      subst h7
      have k1 := RepF.mono J4.ex0 _ _ rv1
      have k2 := RepF.mono J4.ex0 _ _ rv2
      have J5 := Si.updW (w' := (1, .lst (zs.set m d1))) (o := .lst (xs.set m v1)) J4 trivial q3 ⟨p, _, [], rfl, upd_same, rfl, ROs.of_F (RepFs.set k1 m h6)⟩
      refine ⟨p, xs, n, m, rfl, rfl, h4, by rw [h6.len]; exact hm, v2, _, rfl, ?_⟩
      unfold putArg at hput
      simp only at hput
      split at hput
      · rename_i hi
        cases hput
        refine ⟨rfl, post _ _ ?_⟩
        have J6 := (J5.pushF k2).SI.store hi
        exact J6.base (J1.ex0.trans g.gg)
      · cases hput
    · cases hf
  · cases hf
end
end Pv
set_option Elab.async false
set_option linter.all false
set_option maxRecDepth 100000
/-! P46: three names at once -/
namespace Pv
open PySem PySem.Spec PyProof.Rows L2 PySem.W
section
variable {X : Cx} {K : PySem.W.Frag} {a b c : Expr} {pos : Pos}
theorem s_par3 {i j l : Nat} {x y z : Str} {B : Fa} {px py pz pt : Pos} {kt k2 pt2} (hc : X.calm = true) (hN : X.N.Nodup) (ha : OkA X [a, b, c] B) (hi : X.N[i]? = some x := by rfl) (hj : X.N[j]? = some y := by rfl) (hl : X.N[l]? = some z := by rfl)
    (hij : i ≠ j := by decide) (hil : i ≠ l := by decide) (hjl : j ≠ l := by decide) (hx : X.env.scope.names.lookup x = some .local := by rfl) (hy : X.env.scope.names.lookup y = some .local := by rfl) (hz : X.env.scope.names.lookup z = some .local := by rfl)
    (hw : swappedStores [.Tuple [.Name x px, .Name y py, .Name z pz] kt pt] (.Tuple [a, b, c] k2 pt2) X.env = pure (some [x, y, z]) := by rfl)
    (hs : swapsWithSole [.Tuple [.Name x px, .Name y py, .Name z pz] kt pt] (.Tuple [a, b, c] k2 pt2) pos.line X.env = pure false := by rfl) :
    OkS X (.Assign [.Tuple [.Name x px, .Name y py, .Name z pz] kt pt] (.Tuple [a, b, c] k2 pt2) pos) (sPar [i, j, l] B) := PS.imp (ps_par3 hc hN hi hj hl hij hil hjl hx hy hz ha hw hs) fun D σ H h => by
  obtain ⟨G0, ρ, ws, as, I, hA, q⟩ := par_core σ H h
  refine ⟨G0, ρ, ws, as, I, hA, fun vs H1 hl I1 => ?_⟩
  obtain ⟨hn, q⟩ := q vs H1 hl I1
  match vs, hn, q with
  | [u, v, w], _, q => exact ⟨u, v, w, rfl, (q 0).2⟩
end
end Pv
set_option Elab.async false
set_option linter.all false
set_option maxRecDepth 100000
/-! P47: x.extend(e), e a tuple -/
namespace Pv
open PySem PySem.Spec PyProof.Rows L2 PySem.W
theorem list_ext_tup (l b : Addr) (xs ys : Array Value) (n m : Nat) (dd : Option Addr) (sl : Array (Option Value)) (h0 : ¬(!xs.isEmpty && Builtin.List.listTooLong (xs.size + ys.size)) = true) (h1 : xs.size ≤ sizeLine) (h2 : xs.size + ys.size ≤ sizeLine + 1) :
    Meets (Builtin.«list.extend» ⟨[.ref l, .ref b], []⟩) (fun _ R s => s.heap.get? l = some { cls := .type "list", dict := none, data := .seq xs n, slots := #[] } ∧ s.heap.get? b = some { cls := .type "tuple", dict := dd, data := .seq ys m, slots := sl } ∧
      R (.ok (.ret Value.none)) { s with heap := s.heap.update l (Obj.mapSeq fun x => x ++ ys), toks := s.toks }) :=
  .of_wp fun prog w A R s h => by
    obtain ⟨hp, g, d, tk, os⟩ := s
    obtain ⟨hl, hb, h⟩ := h
    have g1 := AutoSeq1.idx_int
    have g2 := AutoSeq1.sub_tuple_tuple
    have g3 := AutoSeq1.sub_list_list
    have g4 := AutoSeq1.sub_tuple_list
    have g5 := AutoSeq1.sub_list_tuple
    have hz' : (xs ++ ys).size ≤ sizeLine + 1 := by
      rw [Array.size_append]; exact h2
    wp_walk using (wpAny_updateSeq hl rfl (hz := h1) (_hz' := hz')), wpAny_loadPart' hl, wpAny_loadPart' hb
    exact ⟨_, rfl, h⟩
def rExtT (K : PySem.W.Frag) : V → List V → Hp → VK → Prop := fun x vs H Q => ∃ l b xs zs, x = .ref l ∧ vs = [.ref b] ∧ H l = some (.lst xs) ∧ SqT K H b zs ∧ xs.length + zs.length ≤ sizeLine ∧ Q .non (upd H l (.lst (xs ++ zs)))
section
variable {X : Cx} {K : PySem.W.Frag} {G0 G G1 G' H H' : Hp} {σ : L2.St} {ρ : Env} {ws : List (V × Arg)} {F F1 F2 : List Addr} {e a b c tg : Expr} {es : List Expr} {pos : Pos} {A B C : Fe}
theorem mt_extT : MtM X "list.extend" (rExtT X.K) := by
  intro pins s σ H x vs v us Q I rx rv h
  obtain ⟨l, b, xs, zs, rfl, rfl, hH, hB, hz, q⟩ := h
  cases rx
  obtain ⟨u, rfl, ru⟩ := rv.one
  cases ru
  obtain ⟨z, its, n, r, hl, e⟩ := I.lstM hH
  obtain ⟨its2, r2, ⟨⟨cls, dd, data, sl⟩, e2, hc, m, hd⟩, hz2⟩ := I.tuple hB
  simp only at hc hd
  subst hc hd
  have hl2 := r2.length
  have hsz : its.toArray.size + its2.toArray.size ≤ sizeLine := by
    rw [List.size_toArray, List.size_toArray]; omega
  have hno : ¬ (!its.toArray.isEmpty && Builtin.List.listTooLong (its.toArray.size + its2.toArray.size)) = true := by
    rw [notLongL hsz]; simp
  refine call_meets F.slot_list_extend ⟨_, e, rfl⟩ F.entry_list_extend (F.args_list_extend_2 _ _) (list_ext_tup l b its.toArray its2.toArray n m dd sl hno (by rw [List.size_toArray]; omega) (by omega)) ⟨e, e2, ?_⟩
  refine ⟨.non, _, I.lset (its' := its ++ its2) hH e (by simp) (r.append r2) ?_, rfl, q⟩
  rw [List.length_append]; omega
/-- x.extend(e), x in slot i a list of frozen items, e a tuple -/
def sExtT (i : Nat) (A : Fe) : Fs := fun ρ => match (ρ[i]?).join with
  | some (1, .lst ds) => (A ρ).bind fun a => match a with
    | .v _ (.tup cs) => if ds.length + cs.length ≤ big then some (.nx, ρ.set i (some (1, .lst (ds ++ cs)))) else none
    | _ => none
  | _ => none
theorem s_extT {i : Nat} {x : Str} {p apos cpos : Pos} (he : OkE X e A) (hN : X.N[i]? = some x := by rfl) (hv : Vis X.env.scope x := by first | exact Or.inl rfl | exact Or.inr (Or.inl rfl) | exact Or.inr (Or.inr rfl)) (hd : (x == ("__debug__" : Str)) = false := by decide) (hcd : (x == ("__classdict__" : Str)) = false := by decide)
    (hfew : ((backTo cpos (starEach [e] X.env)).all (fun x => !x.1) && (backToKw cpos (keywordEach [] X.env)).all (fun x => x.1.isSome) && decide ([e].length + ([] : List Keyword).length + (if ([] : List Keyword).isEmpty then 0 else 1) < 30)) = true := by rfl)
    (hline : (apos.endLine == cpos.line) = true := by rfl) (hs : starEach [e] X.env = (false, eval e X.env) :: starEach [] X.env := by rfl) (hsw : swapsWith (.Call (.Attribute (.Name x p) "extend" apos) [e] [] cpos) none pos.line X.env = pure false := by rfl) :
    OkS X (.Expr (.Call (.Attribute (.Name x p) "extend" apos) [e] [] cpos) pos) (sExtT i A) :=
  PS.imp (ps_expr (pe_bm PySem.F.plainAttrs_list PySem.F.slot_list_extend PySem.F.type_list_extend mt_extT (pe_var hN hv hd hcd) (pa_cons he pa_nil hs) (by rfl) hfew hline hs (by rfl)) hsw) fun D σ H ⟨G0, ρ, fl, ρ', I, hf, post⟩ => by
  unfold sExtT at hf
  split at hf
  · rename_i ds hw
    have hρ := join_some hw
    obtain ⟨a, ha, hf1⟩ := Option.bind_eq_some_iff.mp hf
    clear hf
    split at hf1
    · rename_i k cs
      split at hf1
      · rename_i hz
        cases hf1
        have hx : ∃ p xs, σ[i]? = some (some (.ref p)) ∧ H p = some (.lst xs) := by
          obtain ⟨G, F1, F2, J⟩ := I
          obtain ⟨v, Fi, h1, h2, _⟩ := J.sl.at hρ
          obtain ⟨p, xs, rfl, h3, _⟩ := RO.lstN J.ex h2
          exact ⟨p, xs, h1, h3⟩
        obtain ⟨p, xs, h1, h2⟩ := hx
        refine ⟨.ref p, h1, .inl ⟨rfl, xs, SqL.of h2⟩, G0, ρ, [], _, I, ha, fun y H1 I1 => ?_⟩
        obtain ⟨G, F1, F2, J⟩ := I1
        obtain ⟨Fy, ry⟩ := J.top (w := (k, .tup cs)) rfl
        obtain ⟨q, zs, rfl, h3, h4⟩ := ry.tup
        obtain ⟨F4, _, J2⟩ := J.drop
        obtain ⟨v, Fa, Fi, Fb, e1, q1, q2, q3⟩ := J2.slot hρ
        rw [h1] at q1
        cases q1
        obtain ⟨p', xs', F', q0, q4, rfl, q5⟩ := q2
        cases q0
        subst e1
        obtain ⟨h6, h7⟩ := ROs.to_F q5
        subst h7
        refine ⟨p, q, xs', zs, rfl, rfl, q4, same_t J2.ex h3, by rw [h6.len, h4.len]; exact big_line hz, post _ _ ?_⟩
        exact (Si.updO (w := (1, .lst ds)) (w' := (1, .lst (ds ++ cs))) (F'' := []) (o := .lst _) J2 trivial q3 List.nodup_nil (fun b hb => by cases hb) ⟨p, xs' ++ zs, [], rfl, upd_same, rfl, ROs.of_F (h6.append h4)⟩).SI
      · cases hf1
    · cases hf1
  · cases hf
end
end Pv
set_option Elab.async false
set_option linter.all false
set_option maxRecDepth 100000
/-! R8: running sorted(set(x)), len(set(x)), list(range(..)) -/
namespace Pv
open PySem L2 PySem.W
section
variable {ρ : Env} {it : Fit} {k l : Nat} {ds : List D}
def lrR : Option (List D) → Option W
  | some ds => if ds.length ≤ 1000000 then some (1, .lst ds) else none
  | none => none
@[simp] theorem lrR_s : lrR (some ds) = if ds.length ≤ 1000000 then some (1, .lst ds) else none := rfl
theorem r_lrg : pLstRg it ρ = argR (lrR (it ρ)) := by
  unfold pLstRg
  cases it ρ with
  | none => rfl
  | some ds =>
    show (if ds.length ≤ big then some (Arg.v 1 (.lst ds)) else none) = argR (if ds.length ≤ 1000000 then some (1, .lst ds) else none)
    by_cases h : ds.length ≤ 1000000
    · rw [if_pos (by simpa [big] using h), if_pos h]; rfl
    · rw [if_neg (by simpa [big] using h), if_neg h]; rfl
@[simp] theorem r_lrg' : pLstRg it ρ = argR (lrR (it ρ)) := r_lrg
@[simp] theorem v_lrg : val (pLstRg it) ρ = lrR (it ρ) := val_arg r_lrg
theorem keysD_map : ∀ ks : List Key, keysD (ks.map kDs) = some ks
  | [] => rfl
  | .inl i :: ks => by
    show (some (Sum.inl i : Key)).bind (fun k => (keysD (ks.map kDs)).map fun ks => k :: ks) = _
    rw [keysD_map ks]; rfl
  | .inr x :: ks => by
    show (some (Sum.inr x : Key)).bind (fun k => (keysD (ks.map kDs)).map fun ks => k :: ks) = _
    rw [keysD_map ks]; rfl
/-- sorted(set(..)) of keys told as data -/
theorem setSort_l {ks : List Key} (hk : k ≤ 1) (hl : ks.length ≤ 1000) (hs : sameK ks = true) : gSetSort (k, .lst (ks.map kDs)) = some (1, .lst ((srtK ks).map kDs)) := by
  unfold gSetSort
  show (itemsD (k, .lst (ks.map kDs))).bind _ = _
  have : itemsD (k, .lst (ks.map kDs)) = some (ks.map kDs) := by unfold itemsD; simp [hk]
  rw [this, Option.bind_some, keysD_map, Option.bind_some, if_pos ⟨hl, hs⟩]
theorem setSort_t {ks : List Key} (hl : ks.length ≤ 1000) (hs : sameK ks = true) : gSetSort (k, .tup (ks.map kDs)) = some (1, .lst ((srtK ks).map kDs)) := by
  unfold gSetSort
  show (some (ks.map kDs)).bind _ = _
  rw [Option.bind_some, keysD_map, Option.bind_some, if_pos ⟨hl, hs⟩]
theorem setLen_l {ks : List Key} (hk : k ≤ 1) (hl : ks.length ≤ 1000) : gSetLen (k, .lst (ks.map kDs)) = some (0, .int ((uniq ks).length : Nat)) := by
  unfold gSetLen
  have : itemsD (k, .lst (ks.map kDs)) = some (ks.map kDs) := by unfold itemsD; simp [hk]
  rw [this, Option.bind_some, keysD_map, Option.bind_some, if_pos hl]
theorem srtK_mem {ks : List Key} {x : Key} : x ∈ srtK ks ↔ x ∈ ks := List.mem_mergeSort.trans uniq_mem
theorem srtK_nodup (ks : List Key) : (srtK ks).Nodup := (List.mergeSort_perm _ _).nodup_iff.mpr (uniq_nodup ks)
theorem srtK_sorted (ks : List Key) : (srtK ks).Pairwise fun a b => dataLe false keyPy a b = true := by
  have tot := sortLe_total (PyProof.Rows.listOrd PyProof.Rows.itemOrd) false fun b : Key => keyToks (keyPy b)
  exact List.pairwise_mergeSort (fun a b c h1 h2 => tot.trans a b c h1 h2) (fun a b => by have := tot.total a b; rw [Bool.or_eq_true]; exact this) _
theorem same_of {ks ks' : List Key} (h : sameK ks = true) (hs : ∀ k ∈ ks', k ∈ ks) : sameK ks' = true := by
  unfold sameK at *
  rw [Bool.or_eq_true] at *
  exact h.imp (fun h => List.all_eq_true.mpr fun k hk => List.all_eq_true.mp h k (hs k hk)) (fun h => List.all_eq_true.mpr fun k hk => List.all_eq_true.mp h k (hs k hk))
/-- two lists of the same keys are sorted alike -/
theorem srtK_eq {ks ks' : List Key} (h : sameK ks = true) (e : ∀ k, k ∈ ks ↔ k ∈ ks') : srtK ks = srtK ks' := by
  refine (srt_eq (ks := ks') (same_of h fun k hk => (e k).mpr hk) ?_)
  refine (List.perm_ext_iff_of_nodup (uniq_nodup _) (uniq_nodup _)).mpr fun k => ?_
  rw [uniq_mem, uniq_mem]; exact e k
end
end Pv
set_option Elab.async false
set_option linter.all false
set_option maxRecDepth 100000
/-! R9: running expressions that change a slot; x[j], y = a, b; list * int; min of pairs -/
namespace Pv
open PySem L2
section
variable {ρ ρ1 : Env} {A B C : Fe} {T U : Fb} {f g : Fs} {i j n k l : Nat} {d c : D} {w u v : W} {t : Tg} {Q : Fl → Env → Prop} {ds : List D}
def valAX (A : FaX) (ρ : Env) : Option (List W × Env) := (A ρ).bind fun p => (getAll p.2 p.1).map fun us => (us, p.2)
def fnXR (m : List D → Option W) (dd : List D) : Option (List W × Env) → Option (Arg × Env)
  | some p => (match m (p.1.map (·.2) ++ dd) with | some w => some (.v w.1 w.2, p.2) | none => none)
  | none => none
def fnXS : Option W → Env → Option (Arg × Env)
  | some w, ρ => some (.v w.1 w.2, ρ)
  | none, _ => none
@[simp] theorem fnXS_s : fnXS (some w) ρ = some (.v w.1 w.2, ρ) := rfl
@[simp] theorem fnX_s {m : List D → Option W} {dd : List D} {us : List W} : fnXR m dd (some (us, ρ)) = fnXS (m (us.map (·.2) ++ dd)) ρ := by
  unfold fnXR fnXS
  simp only
  cases m (us.map (·.2) ++ dd) <;> rfl
@[simp] theorem r_fnX {m : List D → Option W} {dd : List D} {B : FaX} : pFnX m dd B ρ = fnXR m dd (valAX B ρ) := by
  unfold pFnX valAX fnXR
  rcases B ρ with _ | ⟨as, ρ2⟩
  · rfl
  · dsimp only [Option.bind_some]
    rcases getAll ρ2 as with _ | us
    · rfl
    · dsimp only [Option.map_some, Option.bind_some]
      cases m (us.map (·.2) ++ dd) <;> rfl
def oneXR : Option (Arg × Env) → Option (List W × Env)
  | some (a, ρ) => (a.get ρ).map fun u => ([u], ρ)
  | none => none
@[simp] theorem oneX_s {a : Arg} : oneXR (some (a, ρ)) = (a.get ρ).map fun u => ([u], ρ) := rfl
@[simp] theorem va_oneX {A : FeX} : valAX (aOneX A) ρ = oneXR (A ρ) := by
  unfold valAX aOneX oneXR
  rcases A ρ with _ | ⟨a, ρ2⟩
  · rfl
  · show (getAll ρ2 [a]).map (fun us => (us, ρ2)) = (a.get ρ2).map fun u => ([u], ρ2)
    have e : getAll ρ2 [a] = (a.get ρ2).bind fun w => some [w] := rfl
    rw [e]
    cases a.get ρ2 <;> rfl
def consXR : Option Arg → Option (List W × Env) → Option (List W × Env)
  | some a, some (us, ρ) => (a.get ρ).map fun u => (u :: us, ρ)
  | _, _ => none
@[simp] theorem consX_s {a : Arg} {us : List W} : consXR (some a) (some (us, ρ)) = (a.get ρ).map fun u => (u :: us, ρ) := rfl
@[simp] theorem va_consX {B : FaX} : valAX (aConsX A B) ρ = consXR (A ρ) (valAX B ρ) := by
  unfold valAX aConsX consXR
  rcases A ρ with _ | a
  · rfl
  · rcases B ρ with _ | ⟨as, ρ2⟩
    · rfl
    · have e : getAll ρ2 (a :: as) = (a.get ρ2).bind fun w => (getAll ρ2 as).map fun ws => w :: ws := rfl
      have e2 : ∀ x : Option (List W × Env), (match some a, x with | some a, some (us, ρ) => (a.get ρ).map fun u => (u :: us, ρ) | _, _ => none) = match x with | some p => (a.get p.2).map fun u => (u :: p.1, p.2) | none => none := fun x => by cases x <;> rfl
      show (getAll ρ2 (a :: as)).map (fun us => (us, ρ2)) = _
      rw [e]
      show _ = match some a, (getAll ρ2 as).map (fun us => (us, ρ2)) with | some a, some (us, ρ) => (a.get ρ).map fun u => (u :: us, ρ) | _, _ => none
      rw [e2]
      cases hx : getAll ρ2 as with
      | none => cases a.get ρ2 <;> rfl
      | some us =>
        show _ = (a.get ρ2).map fun u => (u :: us, ρ2)
        cases a.get ρ2 <;> rfl
@[simp] theorem get_v : Arg.get ρ (.v k d) = some (k, d) := rfl
@[simp] theorem get_r : Arg.get ρ (.r i) = (ρ[i]?).join := rfl
def dpopR (i : Nat) : Option W → Option W → Env → Option (Arg × Env)
  | some u, some (1, .dct false kvs), ρ => (keyD false u.2).bind fun ks => (valD kvs ks).map fun d => (.v 0 d, ρ.set i (some (1, .dct false (dropD kvs ks))))
  | _, _, _ => none
@[simp] theorem r_dpop : pDPop i B ρ = dpopR i (val B ρ) (ρ[i]?.join) ρ := by
  unfold pDPop dpopR
  rcases val B ρ with _ | u
  · rfl
  · dsimp only [Option.bind_some]
    rcases ρ[i]?.join with _ | ⟨k2, d2⟩
    · rfl
    · rcases k2 with _ | _ | k2
      · cases d2 <;> rfl
      · cases d2 with
        | dct t kvs => cases t <;> rfl
        | _ => rfl
      · cases d2 <;> rfl
@[simp] theorem dpop_i {m : Int} {kvs : List (List Key × D)} : dpopR i (some (l, .int m)) (some (1, .dct false kvs)) ρ = (valD kvs [.inl m]).map fun d => (.v 0 d, ρ.set i (some (1, .dct false (dropD kvs [.inl m])))) := rfl
def asgXP (i : Nat) (Q : Fl → Env → Prop) : Option (Arg × Env) → Prop
  | some (.v k d, ρ) => i < ρ.length ∧ Q .nx (ρ.set i (some (k, d)))
  | _ => False
@[simp] theorem asgXP_s : asgXP i Q (some (.v k d, ρ)) = (i < ρ.length ∧ Q .nx (ρ.set i (some (k, d)))) := rfl
@[simp] theorem wp_asgX {A : FeX} : Wp (sAsgX i A ρ) Q = asgXP i Q (A ρ) := by
  unfold sAsgX asgXP
  rcases A ρ with _ | ⟨a, ρ2⟩
  · simp
  · cases a with
    | r x => simp [putArg]
    | v k d =>
      by_cases h : i < ρ2.length
      · simp [putArg, h]
      · simp [putArg, h]
theorem wp_parS {A : Fa} {es es' : List D} {m : Int} {d1 d2 : D} {a b : Nat} (h1 : A ρ = some [.v a d1, .v b d2]) (h2 : ρ[i]?.join = some (1, .lst es)) (h3 : val B ρ = some (k, .int m)) (h4 : setAt es m d1 = some es') (hj : j < ρ.length)
    (q : Q .nx ((ρ.set i (some (1, .lst es'))).set j (some (0, d2)))) : Wp (sParS i B j A ρ) Q := by
  have e : sParS i B j A ρ = some (.nx, (ρ.set i (some (1, .lst es'))).set j (some (0, d2))) := by
    unfold sParS
    rw [h1]
    show ((ρ[i]?).join).bind _ = _
    rw [h2]
    dsimp only [Option.bind_some]
    simp only [h3, Option.bind_some, h4]
    simp [putArg, hj]
  rw [e, wp_some]; exact q
@[simp] theorem mulL_s {j : Int} : gMulL (k, .lst ds) (l, .int j) = if k ≤ 1 ∧ 0 ≤ j ∧ j ≤ 1000 ∧ ds.length ≤ 1000 then some (1, .lst (List.replicate j.toNat ds).flatten) else none := (rfl)
theorem minP_spec : ∀ (r : List (Int × Int)) (p : Int × Int), minP p r ∈ p :: r ∧ ∀ q ∈ p :: r, ltP q (minP p r) = false
  | [], p => ⟨List.mem_cons_self, fun q hq => by rw [List.mem_singleton.mp hq]; unfold minP ltP; simp⟩
  | y :: r, p => by
    have key : minP p (y :: r) = minP (if ltP y p = true then y else p) r := rfl
    obtain ⟨h1, h2⟩ := minP_spec r (if ltP y p = true then y else p)
    rw [key]
    generalize minP (if ltP y p = true then y else p) r = m at *
    have tr : ∀ a b c : Int × Int, ltP a c = true → ltP a b = true ∨ ltP b c = true := fun a b c h => by
      unfold ltP at *; simp at *; omega
    by_cases e : ltP y p = true
    · rw [if_pos e] at h1 h2
      refine ⟨List.mem_cons_of_mem _ h1, fun q hq => ?_⟩
      rcases List.mem_cons.mp hq with rfl | hq
      · have hy := h2 y List.mem_cons_self
        cases hc : ltP q m with
        | false => rfl
        | true =>
          unfold ltP at *; simp at *; omega
      · exact h2 q hq
    · rw [if_neg e] at h1 h2
      refine ⟨?_, fun q hq => ?_⟩
      · rcases List.mem_cons.mp h1 with h | h
        · rw [h]; exact List.mem_cons_self
        · exact List.mem_cons_of_mem _ (List.mem_cons_of_mem _ h)
      · rcases List.mem_cons.mp hq with rfl | hq
        · exact h2 _ List.mem_cons_self
        · rcases List.mem_cons.mp hq with rfl | hq
          · have hp := h2 p List.mem_cons_self
            cases hc : ltP q m with
            | false => rfl
            | true => unfold ltP at *; simp at *; omega
          · exact h2 q (List.mem_cons_of_mem _ hq)
/-- min of pairs of naturals -/
theorem minP_run {p : Nat × Nat} {r : List (Nat × Nat)} (hk : k ≤ 1) : ∃ q, q ∈ p :: r ∧ (∀ x ∈ p :: r, lePr q x = true) ∧ gMinP (k, .lst ((p :: r).map prD)) = some (0, prD q) := by
  have e : (p :: r).map prD = ((p :: r).map fun x : Nat × Nat => ((x.1 : Int), (x.2 : Int))).map ipD := by rw [List.map_map]; rfl
  have h : gMinP (k, .lst ((p :: r).map prD)) = some (0, ipD (minP ((p.1 : Int), (p.2 : Int)) (r.map fun x : Nat × Nat => ((x.1 : Int), (x.2 : Int))))) := by
    unfold gMinP
    rw [ld_l, if_pos hk, Option.bind_some, e, prsD_map]; rfl
  obtain ⟨h1, h2⟩ := minP_spec (r.map fun x : Nat × Nat => ((x.1 : Int), (x.2 : Int))) ((p.1 : Int), (p.2 : Int))
  rw [h]
  have h1' : minP ((p.1 : Int), (p.2 : Int)) (r.map fun x : Nat × Nat => ((x.1 : Int), (x.2 : Int))) ∈ (p :: r).map fun x : Nat × Nat => ((x.1 : Int), (x.2 : Int)) := h1
  obtain ⟨q, hq, eq⟩ := List.mem_map.mp h1'
  refine ⟨q, hq, fun x hx => ?_, by rw [← eq]; rfl⟩
  have := h2 ((x.1 : Int), (x.2 : Int)) (by rw [← List.map_cons (f := fun x : Nat × Nat => ((x.1 : Int), (x.2 : Int)))]; exact List.mem_map.mpr ⟨x, hx, rfl⟩)
  rw [← eq] at this
  unfold ltP at this
  unfold lePr
  simp at *
  omega
theorem min_head {xs : List Nat} {n : Nat} (hk : k ≤ 1) (h : ∀ x ∈ xs, n ≤ x) : gMin (k, .lst ((n :: xs).map IN)) = some (0, .int (n : Int)) := by
  unfold gMin
  rw [ld_l, if_pos hk, Option.bind_some]
  have e : (n :: xs).map IN = (n :: xs).map fun a : Nat => D.int (a : Int) := rfl
  rw [e, intsD_map (fun a : Nat => (a : Int)), Option.bind_some]
  show some (0, D.int (minI (n : Int) (xs.map fun a : Nat => (a : Int)))) = _
  obtain ⟨m1, m2, m3⟩ := minI_spec (n : Int) (xs.map fun a : Nat => (a : Int))
  rcases m1 with m1 | m1
  · rw [m1]
  · obtain ⟨x, hx, e⟩ := List.mem_map.mp m1
    have := h x hx
    congr 3
    omega
end
end Pv
set_option Elab.async false
set_option linter.all false
set_option maxRecDepth 100000
/-! R10: running texts in lists, sorted texts, sorted pairs of a text and a number, dicts with such keys -/
namespace Pv
open PySem L2 PySem.W
section
variable {ρ ρ1 : Env} {A B C : Fe} {T : Fb} {f g : Fs} {i j n k l : Nat} {d c : D} {w u v : W} {t : Tg} {Q : Fl → Env → Prop} {ds : List D} {kvs : List (List Key × D)}
/-! texts in lists -/
theorem all_flatS (xs : List Str) : ((xs.map D.str).all flatD) = true := List.all_eq_true.mpr fun d hd => by obtain ⟨c, _, rfl⟩ := List.mem_map.mp hd; rfl
theorem inF_S (s : Str) (xs : List Str) : inF (.str s) (xs.map D.str) = decide (s ∈ xs) := by
  unfold inF
  rw [List.any_map, Bool.eq_iff_iff]
  simp only [List.any_eq_true, decide_eq_true_eq, Function.comp]
  constructor
  · rintro ⟨x, hx, h⟩
    have h' : (x == s) = true := h
    rw [← eq_of_beq h']; exact hx
  · intro h
    exact ⟨s, h, by show (s == s) = true; simp⟩
@[simp] theorem in_S {neg : Bool} {s : Str} {xs : List Str} : gIn neg (k, .str s) (l, .lst (xs.map D.str)) = if l ≤ 1 then some (0, .bl (neg != decide (s ∈ xs))) else none := by
  show (if l ≤ 1 ∧ flatD (.str s) = true ∧ (xs.map D.str).all flatD = true then _ else _) = _
  rw [all_flatS, inF_S]
  by_cases h : l ≤ 1 <;> simp [h, flatD]
theorem toPys_S : ∀ xs : List Str, toPys (xs.map D.str) = some (xs.map PyData.str)
  | [] => rfl
  | x :: xs => by
    show (some (PyData.str x)).bind (fun p => (toPys (xs.map D.str)).map fun ps => p :: ps) = _
    rw [toPys_S xs]; rfl
theorem lay_S : ∀ xs : List Str, (∀ s ∈ xs, PyData.strOk s = true) → PyData.canLayAll0 (xs.map PyData.str) = true
  | [], _ => by simp [PyData.canLayAll0]
  | x :: xs, h => by
    have h1 := h x List.mem_cons_self
    have h2 := lay_S xs fun s hs => h s (List.mem_cons_of_mem _ hs)
    simp [PyData.canLayAll0, PyData.canLay0, h1, h2]
theorem depth_S : ∀ xs : List Str, PyData.depthAll (xs.map PyData.str) = 0
  | [] => by simp [PyData.depthAll]
  | x :: xs => by simp [PyData.depthAll, PyData.depth, depth_S xs]
theorem count_S {s : Str} {xs : List Str} (hk : k ≤ 1) (h : ∀ s ∈ xs, PyData.strOk s = true) (hs : PyData.strOk s = true) : gCount (k, .lst (xs.map D.str)) (l, .str s) = some (0, .int ((xs.count s : Nat) : Int)) := by
  show (if k ≤ 1 ∧ eqOk (l, .str s) = true then (toPys (xs.map D.str)).bind fun ps => (some (PyData.str s)).bind fun p => if SeqAt.shaped (.tuple ps) = true ∧ SeqAt.shaped p = true then some ((0, D.int ((ps.countP fun z => PyData.eqv z p : Nat))) : W) else none else none) = _
  have h1 : SeqAt.shaped (.tuple (xs.map PyData.str)) = true := by
    unfold SeqAt.shaped
    simp [PyData.canLay0, lay_S xs h, PyData.depth, depth_S]
  have h2 : SeqAt.shaped (.str s) = true := by
    unfold SeqAt.shaped
    simp [PyData.canLay0, hs, PyData.depth]
  have h3 : (xs.map PyData.str).countP (fun z => PyData.eqv z (.str s)) = xs.count s := by
    rw [List.countP_map]
    unfold List.count
    refine List.countP_congr fun x _ => ?_
    simp [PyData.eqv]
  rw [if_pos ⟨hk, by simp [eqOk]⟩, toPys_S, Option.bind_some, Option.bind_some, if_pos ⟨h1, h2⟩, h3]
/-! sorted -/
def leS (a b : Str) : Bool := leD (.str a) (.str b)
def leN (a b : Nat) : Bool := decide (a ≤ b)
def leT (a b : Str × Nat) : Bool := leD (.tup [.str a.1, .int (a.2 : Int)]) (.tup [.str b.1, .int (b.2 : Int)])
def prT (p : Str × Nat) : D := .tup [.str p.1, .int (p.2 : Int)]
theorem leD_tot : (∀ a b c : D, leD a b = true → leD b c = true → leD a c = true) ∧ ∀ a b : D, (leD a b || leD b a) = true := by
  have tot := sortLe_total (PyProof.Rows.listOrd PyProof.Rows.itemOrd) false fun b : D => keyToks (encD b)
  exact ⟨fun a b c h1 h2 => tot.trans a b c h1 h2, fun a b => by have := tot.total a b; rw [Bool.or_eq_true]; exact this⟩
theorem leT_anti (a b : Str × Nat) (h1 : leT a b = true) (h2 : leT b a = true) : a = b := by
  have e1 : (!(PyProof.Rows.lexLt PyProof.Rows.itemOrd (keyToks (encD (prT b))) (keyToks (encD (prT a))))) = true := h1
  have e2 : (!(PyProof.Rows.lexLt PyProof.Rows.itemOrd (keyToks (encD (prT a))) (keyToks (encD (prT b))))) = true := h2
  rw [Bool.not_eq_true'] at e1 e2
  have t := (PyProof.Rows.listOrd PyProof.Rows.itemOrd).total (keyToks (encD (prT a))) (keyToks (encD (prT b))) e2 e1
  have t' : ([.inl 1, .inr a.1.cps.toList, .inl 1, .inl (a.2 : Int), .inl 0] : List (Int ⊕ List Nat)) = [.inl 1, .inr b.1.cps.toList, .inl 1, .inl (b.2 : Int), .inl 0] := t
  have q1 := (List.cons.inj (List.cons.inj t').2).1
  have q2 := (List.cons.inj (List.cons.inj (List.cons.inj (List.cons.inj t').2).2).2).1
  have r1 := str_of_cps (Sum.inr.inj q1)
  have r2 := Sum.inl.inj q2
  exact Prod.ext r1 (by omega)
theorem leT_sorted (ps : List (Str × Nat)) : (ps.mergeSort leT).Pairwise fun a b => leT a b = true := List.pairwise_mergeSort (le := leT) (fun a b c h1 h2 => leD_tot.1 (prT a) (prT b) (prT c) h1 h2) (fun a b => leD_tot.2 (prT a) (prT b)) ps
theorem filter_sort (P : Str × Nat → Bool) (ps : List (Str × Nat)) : (ps.mergeSort leT).filter P = (ps.filter P).mergeSort leT :=
  List.Perm.eq_of_pairwise (le := fun a b => leT a b = true) (fun a b _ _ h1 h2 => leT_anti a b h1 h2) ((leT_sorted ps).filter _) (leT_sorted _) (((List.mergeSort_perm ps leT).filter P).trans (List.mergeSort_perm _ _).symm)
theorem okS {ps : List PyData} (h : (∃ xs : List Str, ps = xs.map PyData.str) ∨ (∃ xs : List Nat, ps = xs.map fun n : Nat => PyData.int (n : Int)) ∨ ∃ xs : List (Str × Nat), ps = xs.map fun p : Str × Nat => PyData.tuple [.str p.1, .int (p.2 : Int)]) : okSort ps = true := by
  unfold okSort
  rw [Bool.and_eq_true]
  rcases h with ⟨xs, rfl⟩ | ⟨xs, rfl⟩ | ⟨xs, rfl⟩
  · refine ⟨List.all_eq_true.mpr fun p hp => ?_, ?_⟩
    · obtain ⟨x, _, rfl⟩ := List.mem_map.mp hp
      rw [Bool.and_eq_true]
      refine ⟨decide_eq_true (by simp [PyData.depth]), List.all_eq_true.mpr fun q hq => ?_⟩
      obtain ⟨y, _, rfl⟩ := List.mem_map.mp hq
      rfl
    · rw [Bool.or_eq_true]
      refine .inr (List.all_eq_true.mpr fun q hq => ?_)
      obtain ⟨y, _, rfl⟩ := List.mem_map.mp hq
      rfl
  · refine ⟨List.all_eq_true.mpr fun p hp => ?_, ?_⟩
    · obtain ⟨x, _, rfl⟩ := List.mem_map.mp hp
      rw [Bool.and_eq_true]
      refine ⟨decide_eq_true (by simp [PyData.depth]), List.all_eq_true.mpr fun q hq => ?_⟩
      obtain ⟨y, _, rfl⟩ := List.mem_map.mp hq
      rfl
    · rw [Bool.or_eq_true]
      refine .inr (List.all_eq_true.mpr fun q hq => ?_)
      obtain ⟨y, _, rfl⟩ := List.mem_map.mp hq
      rfl
  · refine ⟨List.all_eq_true.mpr fun p hp => ?_, ?_⟩
    · obtain ⟨x, _, rfl⟩ := List.mem_map.mp hp
      rw [Bool.and_eq_true]
      refine ⟨decide_eq_true (by simp [PyData.depth, PyData.depthAll]), List.all_eq_true.mpr fun q hq => ?_⟩
      obtain ⟨y, _, rfl⟩ := List.mem_map.mp hq
      rfl
    · rw [Bool.or_eq_true]
      refine .inl (List.all_eq_true.mpr fun q hq => ?_)
      obtain ⟨y, _, rfl⟩ := List.mem_map.mp hq
      rfl
theorem toPys_T : ∀ xs : List (Str × Nat), toPys (xs.map prT) = some (xs.map fun p : Str × Nat => PyData.tuple [.str p.1, .int (p.2 : Int)])
  | [] => rfl
  | x :: xs => by
    have e : toPy (prT x) = some (.tuple [.str x.1, .int (x.2 : Int)]) := rfl
    show (toPy (prT x)).bind (fun p => (toPys (xs.map prT)).map fun ps => p :: ps) = _
    rw [e, toPys_T xs]; rfl
theorem toPys_N : ∀ xs : List Nat, toPys (xs.map IN) = some (xs.map fun n : Nat => PyData.int (n : Int))
  | [] => rfl
  | x :: xs => by
    have e : toPy (IN x) = some (.int (x : Int)) := rfl
    show (toPy (IN x)).bind (fun p => (toPys (xs.map IN)).map fun ps => p :: ps) = _
    rw [e, toPys_N xs]; rfl
theorem leD_N (a b : Nat) : leD (IN a) (IN b) = leN a b := by
  have h : leD (IN a) (IN b) = !(PyProof.Rows.lexLt PyProof.Rows.itemOrd [.inl (b : Int)] [.inl (a : Int)]) := rfl
  have e : PyProof.Rows.lexLt PyProof.Rows.itemOrd [.inl (b : Int)] [.inl (a : Int)] = (decide ((b : Int) < a) || (!decide ((a : Int) < b) && false)) := rfl
  rw [h, e]
  unfold leN
  rw [Bool.eq_iff_iff]
  simp
theorem sortD_T {xs : List (Str × Nat)} (hl : xs.length ≤ 1000000) : sortD (xs.map prT) = some (1, .lst ((xs.mergeSort leT).map prT)) := by
  unfold sortD
  rw [toPys_T, Option.bind_some, if_pos ⟨okS (.inr (.inr ⟨xs, rfl⟩)), by simpa [big] using hl⟩, List.map_mergeSort (r := leT) (s := leD) (f := prT) fun a _ b _ => rfl]
theorem sortD_S {xs : List Str} (hl : xs.length ≤ 1000000) : sortD (xs.map D.str) = some (1, .lst ((xs.mergeSort leS).map D.str)) := by
  unfold sortD
  rw [toPys_S, Option.bind_some, if_pos ⟨okS (.inl ⟨xs, rfl⟩), by simpa [big] using hl⟩, List.map_mergeSort (r := leS) (s := leD) (f := D.str) fun a _ b _ => rfl]
theorem sortD_N {xs : List Nat} (hl : xs.length ≤ 1000000) : sortD (xs.map IN) = some (1, .lst ((xs.mergeSort leN).map IN)) := by
  unfold sortD
  rw [toPys_N, Option.bind_some, if_pos ⟨okS (.inr (.inl ⟨xs, rfl⟩)), by simpa [big] using hl⟩, List.map_mergeSort (r := leN) (s := leD) (f := IN) fun a _ b _ => (leD_N a b).symm]
theorem gSorted_T {xs : List (Str × Nat)} (hk : k ≤ 1) (hl : xs.length ≤ 1000000) : gSorted (k, .lst (xs.map prT)) = some (1, .lst ((xs.mergeSort leT).map prT)) := by
  unfold gSorted
  rw [ld_l, if_pos hk, Option.bind_some, sortD_T hl]
theorem gSorted_S {xs : List Str} (hk : k ≤ 1) (hl : xs.length ≤ 1000000) : gSorted (k, .lst (xs.map D.str)) = some (1, .lst ((xs.mergeSort leS).map D.str)) := by
  unfold gSorted
  rw [ld_l, if_pos hk, Option.bind_some, sortD_S hl]
/-! sorted(set(..)) -/
def srtS (xs : List Str) : List Str := (uniq xs).mergeSort leS
def srtN (xs : List Nat) : List Nat := (uniq xs).mergeSort leN
theorem map_inj_eq {α β : Type} {f : α → β} (hf : ∀ a b, f a = f b → a = b) : ∀ {xs ys : List α}, xs.map f = ys.map f → xs = ys
  | [], [], _ => rfl
  | [], _ :: _, h => by cases h
  | _ :: _, [], h => by cases h
  | x :: xs, y :: ys, h => by
    rw [List.map_cons, List.map_cons] at h
    obtain ⟨h1, h2⟩ := List.cons.inj h
    rw [hf _ _ h1, map_inj_eq hf h2]
theorem nodup_map_inj {α β : Type} {f : α → β} (hf : ∀ a b, f a = f b → a = b) {xs : List α} (h : xs.Nodup) : (xs.map f).Nodup := by
  unfold List.Nodup at *
  rw [List.pairwise_map]
  exact h.imp fun hab e => hab (hf _ _ e)
theorem srt_any {α : Type} [DecidableEq α] {f : α → Key} {le : α → α → Bool} (hf : ∀ a b, f a = f b → a = b) (hle : ∀ a b, le a b = dataLe false keyPy (f a) (f b)) {xs l : List α} (hs : sameK (xs.map f) = true) (nd : l.Nodup) (m : ∀ a, a ∈ l ↔ a ∈ xs) :
    srtK (xs.map f) = (l.mergeSort le).map f := by
  rw [List.map_mergeSort (r := le) (s := dataLe false keyPy) (f := f) fun a _ b _ => hle a b]
  refine (srt_eq hs ?_).symm
  refine (List.perm_ext_iff_of_nodup (nodup_map_inj hf nd) (uniq_nodup _)).mpr fun k => ?_
  rw [uniq_mem]
  constructor
  · intro h
    obtain ⟨a, ha, rfl⟩ := List.mem_map.mp h
    exact List.mem_map_of_mem ((m a).mp ha)
  · intro h
    obtain ⟨a, ha, rfl⟩ := List.mem_map.mp h
    exact List.mem_map_of_mem ((m a).mpr ha)
theorem inrS (a b : Str) (h : (Sum.inr a : Key) = .inr b) : a = b := Sum.inr.inj h
theorem inlN (a b : Nat) (h : (Sum.inl (a : Int) : Key) = .inl (b : Int)) : a = b := by have := Sum.inl.inj h; omega
theorem same_S (xs : List Str) : sameK (xs.map Sum.inr) = true := by
  unfold sameK
  rw [Bool.or_eq_true]
  exact .inr (List.all_eq_true.mpr fun k hk => by obtain ⟨a, _, rfl⟩ := List.mem_map.mp hk; rfl)
theorem same_N (xs : List Nat) : sameK (xs.map fun n : Nat => Sum.inl (n : Int)) = true := by
  unfold sameK
  rw [Bool.or_eq_true]
  exact .inl (List.all_eq_true.mpr fun k hk => by obtain ⟨a, _, rfl⟩ := List.mem_map.mp hk; rfl)
theorem leS_key (a b : Str) : leS a b = dataLe false keyPy (.inr a) (.inr b) := rfl
theorem leN_key (a b : Nat) : leN a b = dataLe false keyPy (.inl (a : Int)) (.inl (b : Int)) := by
  rw [← leD_N]; rfl
/-- lists without repeats of the same items are sorted alike -/
theorem srtS_eq {xs l : List Str} (nd : l.Nodup) (m : ∀ a, a ∈ l ↔ a ∈ xs) : l.mergeSort leS = srtS xs := by
  have h1 := srt_any inrS leS_key (same_S xs) nd m
  have h2 := srt_any inrS leS_key (same_S xs) (uniq_nodup xs) fun a => uniq_mem
  rw [h1] at h2
  exact map_inj_eq inrS h2
theorem srtN_eq {xs l : List Nat} (nd : l.Nodup) (m : ∀ a, a ∈ l ↔ a ∈ xs) : l.mergeSort leN = srtN xs := by
  have h1 := srt_any inlN leN_key (same_N xs) nd m
  have h2 := srt_any inlN leN_key (same_N xs) (uniq_nodup xs) fun a => uniq_mem
  rw [h1] at h2
  exact map_inj_eq inlN h2
theorem srtS_mem {xs : List Str} {s : Str} : s ∈ srtS xs ↔ s ∈ xs := List.mem_mergeSort.trans uniq_mem
theorem srtN_mem {xs : List Nat} {s : Nat} : s ∈ srtN xs ↔ s ∈ xs := List.mem_mergeSort.trans uniq_mem
theorem srtS_nodup (xs : List Str) : (srtS xs).Nodup := (List.mergeSort_perm _ _).nodup_iff.mpr (uniq_nodup xs)
theorem srtN_nodup (xs : List Nat) : (srtN xs).Nodup := (List.mergeSort_perm _ _).nodup_iff.mpr (uniq_nodup xs)
theorem srtS_len (xs : List Str) : (srtS xs).length ≤ xs.length := by
  unfold srtS
  rw [List.length_mergeSort]
  exact uniq_len xs
theorem srtN_len (xs : List Nat) : (srtN xs).length ≤ xs.length := by
  unfold srtN
  rw [List.length_mergeSort]
  exact uniq_len xs
theorem set_S {xs : List Str} (hk : k ≤ 1) (hl : xs.length ≤ 1000) : gSetSort (k, .lst (xs.map D.str)) = some (1, .lst ((srtS xs).map D.str)) := by
  have e : xs.map D.str = (xs.map Sum.inr).map kDs := by rw [List.map_map]; rfl
  rw [e, setSort_l hk (by simpa using hl) (same_S xs), srt_any inrS leS_key (same_S xs) (uniq_nodup xs) fun a => uniq_mem, List.map_map]; rfl
theorem set_N {xs : List Nat} (hk : k ≤ 1) (hl : xs.length ≤ 1000) : gSetSort (k, .lst (xs.map IN)) = some (1, .lst ((srtN xs).map IN)) := by
  have e : xs.map IN = (xs.map fun n : Nat => (Sum.inl (n : Int) : Key)).map kDs := by rw [List.map_map]; rfl
  rw [e, setSort_l hk (by simpa using hl) (same_N xs), srt_any inlN leN_key (same_N xs) (uniq_nodup xs) fun a => uniq_mem, List.map_map]; rfl
theorem setLen_S {xs : List Str} (hk : k ≤ 1) (hl : xs.length ≤ 1000) : ∃ m : Nat, gSetLen (k, .lst (xs.map D.str)) = some (0, .int (m : Int)) := by
  have e : xs.map D.str = (xs.map Sum.inr).map kDs := by rw [List.map_map]; rfl
  exact ⟨_, by rw [e, setLen_l hk (by simpa using hl)]⟩
/-! dicts -/
def get2R : Option W → Option W → Option Arg → Option W
  | some (k, .dct t kvs), some v, some (.v _ z) => if k ≤ 1 then (keyD t v.2).map fun ks => (0, (valD kvs ks).getD z) else none
  | _, _, _ => none
theorem r_get2 : pGet2 A B C ρ = argR (get2R (val A ρ) (val B ρ) (C ρ)) := by
  unfold pGet2 get2R argR
  rcases val A ρ with _ | ⟨k, d⟩
  · rfl
  · dsimp only [Option.bind_some]
    rcases val B ρ with _ | v
    · cases d <;> rfl
    · dsimp only [Option.bind_some]
      rcases C ρ with _ | c
      · cases d <;> rfl
      · cases d <;> cases c <;> first | rfl | skip
        rename_i t kvs j z
        show (if k ≤ 1 then (keyD t v.2).map fun ks => Arg.v 0 ((valD kvs ks).getD z) else none) = match (if k ≤ 1 then (keyD t v.2).map fun ks => ((0, (valD kvs ks).getD z) : W) else none) with | some w => some (.v w.1 w.2) | none => none
        by_cases h : k ≤ 1
        · rw [if_pos h, if_pos h]; cases keyD t v.2 <;> rfl
        · rw [if_neg h, if_neg h]
@[simp] theorem r_get2' : pGet2 A B C ρ = argR (get2R (val A ρ) (val B ρ) (C ρ)) := r_get2
@[simp] theorem v_get2 : val (pGet2 A B C) ρ = get2R (val A ρ) (val B ρ) (C ρ) := val_arg r_get2
@[simp] theorem get2_s {s : Str} : get2R (some (k, .dct false kvs)) (some (l, .str s)) (some (.v j d)) = if k ≤ 1 then some (0, (valD kvs [.inr s]).getD d) else none := rfl
@[simp] theorem put_T {s : Str} {m : Int} : putR i (some (.v j d)) (some (1, .dct true kvs)) (some (l, .tup [.str s, .int m])) ρ = if kvs.length < big then some (.nx, ρ.set i (some (1, .dct true (putD kvs [.inr s, .inl m] d)))) else none := rfl
def lcDR {α : Type} : Option W → Option α → Option α
  | some (0, .dct _ _), x => x
  | _, _ => none
@[simp] theorem lcDR_s {α : Type} {t : Bool} {x : Option α} : lcDR (some (0, .dct t kvs)) x = x := rfl
@[simp] theorem r_lcD {vs : List Nat} : pLcD i j t vs T A ρ = lcDR (ρ[i]?.join) (pLc j (iKeysF i) t vs T A ρ) := by
  unfold pLcD lcDR
  rcases ρ[i]?.join with _ | ⟨k, d⟩
  · rfl
  · cases k with
    | zero => cases d <;> rfl
    | succ k => cases d <;> rfl
@[simp] theorem v_lcD {vs : List Nat} : val (pLcD i j t vs T A) ρ = lcDR (ρ[i]?.join) (val (pLc j (iKeysF i) t vs T A) ρ) := by
  unfold val
  rw [r_lcD]
  unfold lcDR
  rcases ρ[i]?.join with _ | ⟨k, d⟩
  · rfl
  · cases k with
    | zero => cases d <;> rfl
    | succ k => cases d <;> rfl
def keysR : Option W → Option (List D)
  | some (0, .dct t kvs) => some (kvs.map fun p => keyDat t p.1)
  | _ => none
@[simp] theorem r_keys : iKeysF i ρ = keysR (ρ[i]?.join) := rfl
@[simp] theorem keysR_s {t : Bool} : keysR (some (0, .dct t kvs)) = some (kvs.map fun p => keyDat t p.1) := rfl
def srtDR : Option W → Option W
  | some (k, .dct t kvs) => if k ≤ 1 then sortD (kvs.map fun p => keyDat t p.1) else none
  | _ => none
theorem r_sortedD : pSortedD A ρ = argR (srtDR (val A ρ)) := by
  unfold pSortedD srtDR argR
  rcases val A ρ with _ | ⟨k, d⟩
  · rfl
  · cases d <;> first | rfl | skip
    rename_i t kvs
    dsimp only [Option.bind_some]
    by_cases h : k ≤ 1
    · rw [if_pos h, if_pos h]; cases sortD (kvs.map fun p => keyDat t p.1) <;> rfl
    · rw [if_neg h, if_neg h]
@[simp] theorem r_sortedD' : pSortedD A ρ = argR (srtDR (val A ρ)) := r_sortedD
@[simp] theorem v_sortedD : val (pSortedD A) ρ = srtDR (val A ρ) := val_arg r_sortedD
@[simp] theorem srtDR_s {t : Bool} : srtDR (some (k, .dct t kvs)) = if k ≤ 1 then sortD (kvs.map fun p => keyDat t p.1) else none := rfl
@[simp] theorem disp1_i {m : Int} (hb : val B ρ = some (k, .int m)) (ha : A ρ = some (.v j d)) : pDisp1 B A ρ = some (.v 1 (.dct false [([.inl m], d)])) := by
  unfold pDisp1
  rw [hb, ha]; rfl
/-! dicts told by a list of keys -/
def dS (T : List Str) (f : Str → D) : List (List Key × D) := T.map fun s => ([.inr s], f s)
def dN (T : List Nat) (f : Nat → D) : List (List Key × D) := T.map fun s : Nat => ([.inl (s : Int)], f s)
theorem valD_S {f : Str → D} {s : Str} : ∀ T : List Str, valD (dS T f) [.inr s] = if s ∈ T then some (f s) else none
  | [] => by simp [dS, valD]
  | x :: T => by
    have ih := valD_S (f := f) (s := s) T
    unfold dS at *
    rw [List.map_cons]
    unfold valD
    by_cases e : x = s
    · subst e; simp
    · have h1 : ¬ (([Sum.inr x] : List Key) = [Sum.inr s]) := fun z => e (Sum.inr.inj (List.cons.inj z).1)
      rw [if_neg h1, ih]
      simp [Ne.symm e]
theorem valD_N {f : Nat → D} {s : Nat} : ∀ T : List Nat, valD (dN T f) [.inl (s : Int)] = if s ∈ T then some (f s) else none
  | [] => by simp [dN, valD]
  | x :: T => by
    have ih := valD_N (f := f) (s := s) T
    unfold dN at *
    rw [List.map_cons]
    unfold valD
    by_cases e : x = s
    · subst e; simp
    · have h1 : ¬ (([Sum.inl (x : Int)] : List Key) = [Sum.inl (s : Int)]) := fun z => e (inlN _ _ (List.cons.inj z).1)
      rw [if_neg h1, ih]
      simp [Ne.symm e]
theorem putD_S {f g : Str → D} {T : List Str} {s : Str} (h : ∀ x ∈ T, x ≠ s → g x = f x) (hs : g s = d) : putD (dS T f) [.inr s] d = dS (if s ∈ T then T else T ++ [s]) g := by
  unfold putD
  rw [valD_S]
  by_cases m : s ∈ T
  · rw [if_pos m, if_pos m]
    simp only [Option.isSome_some, if_true]
    unfold dS
    rw [List.map_map]
    refine List.map_congr_left fun x hx => ?_
    show (if ([Sum.inr x] : List Key) = [Sum.inr s] then _ else _) = _
    by_cases e : x = s
    · subst e; rw [if_pos rfl, hs]
    · rw [if_neg (fun z => e (Sum.inr.inj (List.cons.inj z).1)), h x hx e]
  · rw [if_neg m, if_neg m]
    simp only [Option.isSome_none, Bool.false_eq_true, if_false]
    unfold dS
    rw [List.map_append]
    congr 1
    · exact List.map_congr_left fun x hx => by rw [h x hx fun e => m (e ▸ hx)]
    · show _ = [([Sum.inr s], g s)]
      rw [hs]
theorem dS_keys (T : List Str) (f : Str → D) : (dS T f).map (fun p => keyDat false p.1) = T.map D.str := by
  unfold dS
  rw [List.map_map]; rfl
theorem dN_keys (T : List Nat) (f : Nat → D) : (dN T f).map (fun p => keyDat false p.1) = T.map IN := by
  unfold dN
  rw [List.map_map]; rfl
end
end Pv
set_option Elab.async false
set_option linter.all false
set_option maxRecDepth 100000
/-! R11: running x.extend(tuple); any of truths -/
namespace Pv
open PySem L2 PySem.W
section
variable {ρ ρ1 : Env} {A B C : Fe} {T : Fb} {i j n k l : Nat} {d c : D} {ds cs : List D}
def extTR (i : Nat) : Option W → Option Arg → Env → Option (Fl × Env)
  | some (1, .lst ds), some (.v _ (.tup cs)), ρ => if ds.length + cs.length ≤ 1000000 then some (.nx, ρ.set i (some (1, .lst (ds ++ cs)))) else none
  | _, _, _ => none
@[simp] theorem extT_s : extTR i (some (1, .lst ds)) (some (.v k (.tup cs))) ρ = if ds.length + cs.length ≤ 1000000 then some (.nx, ρ.set i (some (1, .lst (ds ++ cs)))) else none := (rfl)
@[simp] theorem r_extT : sExtT i A ρ = extTR i (ρ[i]?.join) (A ρ) ρ := by
  unfold sExtT
  split
  · rename_i ds h
    rw [h]
    rcases A ρ with _ | a
    · rfl
    · cases a with
      | r x => rfl
      | v k d => cases d <;> rfl
  · rename_i h
    unfold extTR
    split
    · exact absurd ‹_› (h _)
    · rfl
theorem blsD_map {α : Type} (f : α → Bool) : ∀ xs : List α, blsD (xs.map fun a => D.bl (f a)) = some (xs.map f)
  | [] => rfl
  | x :: xs => by
    show (blsD (xs.map fun a => D.bl (f a))).map _ = _
    rw [blsD_map f xs]; rfl
theorem any_bls {α : Type} (f : α → Bool) (xs : List α) : gAny (1, .lst (xs.map fun a => D.bl (f a))) = some (0, .bl (xs.any f)) := by
  unfold gAny
  rw [ld_l, if_pos (by omega), Option.bind_some, blsD_map]
  show some ((0, D.bl ((xs.map f).any id)) : W) = _
  rw [List.any_map]; rfl
theorem nd_sub : ∀ {xs ys : List Nat}, xs.Nodup → (∀ a ∈ xs, a ∈ ys) → xs.length ≤ ys.length
  | [], _, _, _ => Nat.zero_le _
  | x :: xs, ys, nd, h => by
    have nd' := List.nodup_cons.mp nd
    have hx := h x List.mem_cons_self
    have ih := nd_sub (ys := ys.erase x) nd'.2 fun a ha => (List.mem_erase_of_ne (fun e : a = x => nd'.1 (by rw [← e]; exact ha))).mpr (h a (List.mem_cons_of_mem _ ha))
    rw [List.length_erase_of_mem hx] at ih
    have := List.length_pos_of_mem hx
    rw [List.length_cons]; omega
end
end Pv
set_option Elab.async false
set_option linter.all false
set_option maxRecDepth 100000
/-! printed by gen.py: the defs of the law as data -/
namespace K38
open PySem PySem.Spec PyProof.Rows L2 Pv
def b_law_mixed : Fs := bSeq (sAsg 2 (pC (.int 0))) (bSeq (sIf (bVal (pOp2 (gCmpI fun i j => decide (j < i)) (pCall (on1 gLen) (aCons (pBv 0) aNil)) (pC (.int 0)))) (sAsg 2 (pOp2 gIx (pBv 0) (pOp2 gMod (pBv 1) (pCall (on1 gLen) (aCons (pBv 0) aNil))))) bNil) (bSeq (sAsg 3 (pOp2 gMod (pCall (on1 gInt) (aCons (pOp2 gAdd (pOp2 gAdd (pOp2 gMulI (pBv 2) (pC (.int 48271))) (pOp2 gMulI (pBv 1) (pC (.int 69621)))) (pC (.int 8191))) aNil)) (pC (.int 2147483647)))) (bSeq (sAsg 4 (pOp2 gMod (pCall (on1 gInt) (aCons (pOp2 gAdd (pOp2 gAdd (pOp2 gMulI (pBv 3) (pBv 3)) (pOp2 gFdiv (pBv 3) (pC (.int 7)))) (pOp2 gMulI (pBv 1) (pC (.int 16807)))) aNil)) (pC (.int 2147483629)))) (bSeq (sAsg 5 (pOp2 gMod (pCall (on1 gInt) (aCons (pOp2 gAdd (pOp2 gAdd (pOp2 gMulI (pBv 4) (pBv 4)) (pOp2 gFdiv (pBv 4) (pC (.int 11)))) (pC (.int 40692))) aNil)) (pC (.int 2147483563)))) (sRet (pOp2 gMod (pOp2 gFdiv (pBv 5) (pC (.int 5))) (pC (.int 1000003))))))))
def m_law_mixed : List D → Option W := mkM 6 2 b_law_mixed
def b_law_row : Fs := bSeq (sAsg 2 (pC (.int 0))) (bSeq (sIf (bAnd (bVal (pOp2 (gCmpI fun i j => decide (j < i)) (pCall (on1 gLen) (aCons (pBv 0) aNil)) (pC (.int 0)))) (bVal (pOp2 (gCmpI fun i j => decide (j ≤ i)) (pOp2 gIx (pBv 0) (pC (.int 0))) (pOp2 gPow (pC (.int 10)) (pC (.int 18)))))) (sAsg 2 (pOp2 gIx (pBv 0) (pC (.int 0)))) bNil) (bSeq (sAsg 3 (pLst aNil)) (bSeq (sFor (iRange1 (pBv 1)) (.nm 4) (sIf (bVal (pOp2 (gCmpI fun i j => decide (j < i)) (pBv 2) (pC (.int 0)))) (bSeq (sApp 3 (pOp2 gMod (pCall (on1 gInt) (aCons (pBv 2) aNil)) (pC (.int 1000)))) (sAsg 2 (pOp2 gFdiv (pBv 2) (pC (.int 1000))))) (sApp 3 (pFn m_law_mixed [] (aCons (pBv 0) (aCons (pBv 4) aNil)))))) (sRet (pBv 3)))))
def m_law_row : List D → Option W := mkM 5 2 b_law_row
def b_law_fit : Fs := bSeq (sAsg 3 (pLc 0 (iRange1 (pCall (on1 gLen) (aCons (pBv 1) aNil))) (.nm 4) [4] (bAnd (bVal (pOp2 gIx (pOp2 gIx (pBv 1) (pBv 4)) (pC (.int 1)))) (bVal (pOp2 (gCmpI fun i j => decide (j ≤ i)) (pOp2 gIx (pOp2 gIx (pBv 1) (pBv 4)) (pC (.int 0))) (pBv 2)))) (pTup (aCons (pOp2 gIx (pOp2 gIx (pBv 1) (pBv 4)) (pC (.int 0))) (aCons (pVar 4) aNil))))) (bSeq (sIf (bVal (pOp2 gEq (pCall (on1 gLen) (aCons (pBv 3) aNil)) (pC (.int 0)))) (sRet (pC .non)) bNil) (bSeq (sIf (bVal (pOp2 gEq (pBv 0) (pC (.str "best")))) (sRet (pOp2 gIx (pCall (on1 gMinP) (aCons (pBv 3) aNil)) (pC (.int 1)))) bNil) (sRet (pCall (on1 gMin) (aCons (pLc 0 (iLc (pBv 3)) (.tp [.nm 5, .nm 4]) ([5, 4]) bYes (pVar 4)) aNil)))))
def m_law_fit : List D → Option W := mkM 6 3 b_law_fit
def b_law_is_int : Fs := sRet (pAnd (pIsi .int (pBv 0)) (pNot (pIsi .bl (pBv 0))))
def m_law_is_int : List D → Option W := mkM 1 1 b_law_is_int
def b_law_like (m : List D → Option W) : Fs := bSeq (sIf (bVal (pOp2 gIsN (pBv 1) (pC .non))) (sRet (pOp2 gIsN (pBv 0) (pC .non))) bNil) (bSeq (sIf (bVal (pIsi .bl (pBv 1))) (sRet (pAnd (pIsi .bl (pBv 0)) (pOp2 gEq (pBv 0) (pBv 1)))) bNil) (bSeq (sIf (bVal (pIsi .tup (pBv 1))) (bSeq (sIf (bOr (bNot (bVal (pIsi .tup (pBv 0)))) (bVal (pOp2 gNe (pCall (on1 gLen) (aCons (pBv 0) aNil)) (pCall (on1 gLen) (aCons (pBv 1) aNil))))) (sRet (pC (.bl false))) bNil) (sRet (pCall (on1 gAll) (aCons (pLc 0 (iRange1 (pCall (on1 gLen) (aCons (pBv 1) aNil))) (.nm 2) [2] bYes (pFn m [] (aCons (pOp2 gIx (pBv 0) (pBv 2)) (aCons (pOp2 gIx (pBv 1) (pBv 2)) aNil)))) aNil)))) bNil) (bSeq (sIf (bVal (pIsi .str (pBv 1))) (sRet (pAnd (pIsi .str (pBv 0)) (pOp2 gEq (pBv 0) (pBv 1)))) bNil) (sRet (pAnd (pFn m_law_is_int [] (aCons (pBv 0) aNil)) (pOp2 gEq (pBv 0) (pBv 1)))))))
def r_law_like : Nat → List D → Option W
  | 0 => fun _ => none
  | n + 1 => mkM 3 2 (b_law_like (r_law_like n))
def m_law_like : List D → Option W := r_law_like 6
def b_law_place : Fs := bSeq (sAsgT (.tp [.nm 2, .nm 3]) (pTup (aCons (pC (.int 0)) (aCons (pC (.int 0)) aNil)))) (bSeq (sFor (iSeq (pVar 0)) (.tp [.nm 4, .nm 5]) (bSeq (sIf (bVal (pOp2 (gCmpI fun i j => decide (i < j)) (pBv 3) (pBv 1))) (sAsg 2 (pOp2 gAdd (pBv 2) (pC (.int 1)))) bNil) (sAsg 3 (pOp2 gAdd (pBv 3) (pBv 4))))) (sRet (pBv 2)))
def m_law_place : List D → Option W := mkM 6 2 b_law_place
def b_law_given : Fs := bSeq (sPar [2, 3] (aCons (pVar 1) (aCons (pOp2 gAdd (pBv 1) (pC (.int 1))) aNil))) (bSeq (sIf (bAnd (bVal (pOp2 (gCmpI fun i j => decide (j < i)) (pBv 2) (pC (.int 0)))) (bVal (pOp2 gIx (pOp2 gIx (pBv 0) (pOp2 gSub (pBv 2) (pC (.int 1)))) (pC (.int 1))))) (sAsg 2 (pOp2 gSub (pBv 2) (pC (.int 1)))) bNil) (bSeq (sIf (bAnd (bVal (pOp2 (gCmpI fun i j => decide (i < j)) (pBv 3) (pCall (on1 gLen) (aCons (pBv 0) aNil)))) (bVal (pOp2 gIx (pOp2 gIx (pBv 0) (pBv 3)) (pC (.int 1))))) (sAsg 3 (pOp2 gAdd (pBv 3) (pC (.int 1)))) bNil) (sRet (pOp2 gAdd (pOp2 gAdd (pSl (pBv 0) oNone (oSome (pBv 2))) (pTup (aCons (pTup (aCons (pCall (on1 gSum) (aCons (pLc 0 (iSeq (pSl (pBv 0) (oSome (pBv 2)) (oSome (pBv 3)))) (.tp [.nm 4, .nm 5]) ([4, 5]) bYes (pVar 4)) aNil)) (aCons (pC (.bl true)) aNil))) aNil))) (pSl (pBv 0) (oSome (pBv 3)) oNone)))))
def m_law_given : List D → Option W := mkM 6 2 b_law_given
def b_lost_room : Fs := bSeq (sAsg 1 (pLc 0 (iSeq (pVar 0)) (.tp [.nm 2, .nm 3]) ([2, 3]) (bTru (pBv 3)) (pVar 2))) (sRet (pOp2 gSub (pCall (on1 gSum) (aCons (pBv 1) aNil)) (pOp2 gMaxDef (pBv 1) (pC (.int 0)))))
def m_lost_room : List D → Option W := mkM 4 1 b_lost_room
def b_first_room : Fs := bSeq (sFor (iEnum (pVar 0)) (.tp [.nm 2, .tp [.nm 3, .nm 4]]) (sIf (bAnd (bTru (pBv 4)) (bVal (pOp2 (gCmpI fun i j => decide (j ≤ i)) (pBv 3) (pBv 1)))) (sRet (pBv 2)) bNil)) (sRet (pC .non))
def m_first_room : List D → Option W := mkM 5 2 b_first_room
def b_best_room : Fs := bSeq (sAsg 2 (pC .non)) (bSeq (sFor (iEnum (pVar 0)) (.tp [.nm 3, .tp [.nm 4, .nm 5]]) (sIf (bAnd (bTru (pBv 5)) (bAnd (bVal (pOp2 (gCmpI fun i j => decide (j ≤ i)) (pBv 4) (pBv 1))) (bOr (bVal (pOp2 gIsN (pBv 2) (pC .non))) (bVal (pOp2 (gCmpI fun i j => decide (i < j)) (pBv 4) (pOp2 gIx (pOp2 gIx (pBv 0) (pBv 2)) (pC (.int 0)))))))) (sAsg 2 (pVar 3)) bNil)) (sRet (pBv 2)))
def m_best_room : List D → Option W := mkM 6 2 b_best_room
def b_room_taken : Fs := bSeq (sAsg 3 (pOp2 gSub (pOp2 gIx (pOp2 gIx (pBv 0) (pBv 1)) (pC (.int 0))) (pBv 2))) (bSeq (sAsg 4 (pIf (bVal (pOp2 gEq (pBv 3) (pC (.int 0)))) (pTup (aCons (pTup (aCons (pVar 2) (aCons (pC (.bl false)) aNil))) aNil)) (pTup (aCons (pTup (aCons (pVar 2) (aCons (pC (.bl false)) aNil))) (aCons (pTup (aCons (pVar 3) (aCons (pC (.bl true)) aNil))) aNil))))) (sRet (pOp2 gAdd (pOp2 gAdd (pSl (pBv 0) oNone (oSome (pBv 1))) (pBv 4)) (pSl (pBv 0) (oSome (pOp2 gAdd (pBv 1) (pC (.int 1)))) oNone))))
def m_room_taken : List D → Option W := mkM 5 3 b_room_taken
def b_room_given : Fs := bSeq (sAsg 2 (pIf (bAnd (bVal (pOp2 (gCmpI fun i j => decide (j < i)) (pBv 1) (pC (.int 0)))) (bVal (pOp2 gIx (pOp2 gIx (pBv 0) (pOp2 gSub (pBv 1) (pC (.int 1)))) (pC (.int 1))))) (pOp2 gSub (pBv 1) (pC (.int 1))) (pVar 1))) (bSeq (sAsg 3 (pIf (bAnd (bVal (pOp2 (gCmpI fun i j => decide (i < j)) (pOp2 gAdd (pBv 1) (pC (.int 1))) (pCall (on1 gLen) (aCons (pBv 0) aNil)))) (bVal (pOp2 gIx (pOp2 gIx (pBv 0) (pOp2 gAdd (pBv 1) (pC (.int 1)))) (pC (.int 1))))) (pOp2 gAdd (pBv 1) (pC (.int 1))) (pVar 1))) (bSeq (sAsg 4 (pCall (on1 gSum) (aCons (pLc 0 (iSeq (pSl (pBv 0) (oSome (pBv 2)) (oSome (pOp2 gAdd (pBv 3) (pC (.int 1)))))) (.nm 5) [5] bYes (pOp2 gIx (pBv 5) (pC (.int 0)))) aNil))) (sRet (pOp2 gAdd (pOp2 gAdd (pSl (pBv 0) oNone (oSome (pBv 2))) (pTup (aCons (pTup (aCons (pVar 4) (aCons (pC (.bl true)) aNil))) aNil))) (pSl (pBv 0) (oSome (pOp2 gAdd (pBv 3) (pC (.int 1)))) oNone)))))
def m_room_given : List D → Option W := mkM 6 2 b_room_given
def b_law_run : Fs := bSeq (sPar [3, 4, 5] (aCons (pTup (aCons (pTup (aCons (pVar 1) (aCons (pC (.bl true)) aNil))) aNil)) (aCons (pLst aNil) (aCons (pLst aNil) aNil)))) (bSeq (sFor (iSeq (pVar 2)) (.tp [.nm 6, .nm 7]) (bSeq (sIf (bVal (pOp2 gEq (pBv 6) (pC (.str "take")))) (bSeq (sAsg 8 (pFn m_law_fit [] (aCons (pBv 0) (aCons (pBv 3) (aCons (pBv 7) aNil))))) (bSeq (sIf (bAnd (bVal (pOp2 gEq (pBv 0) (pC (.str "first")))) (bNot (bVal (pFn m_law_like [] (aCons (pFn m_first_room [] (aCons (pBv 3) (aCons (pBv 7) aNil))) (aCons (pBv 8) aNil)))))) (sRet (pC .non)) bNil) (bSeq (sIf (bAnd (bVal (pOp2 gEq (pBv 0) (pC (.str "best")))) (bNot (bVal (pFn m_law_like [] (aCons (pFn m_best_room [] (aCons (pBv 3) (aCons (pBv 7) aNil))) (aCons (pBv 8) aNil)))))) (sRet (pC .non)) bNil) (bSeq (sApp 5 (pOp2 gNotN (pBv 8) (pC .non))) (sIf (bVal (pOp2 gIsN (pBv 8) (pC .non))) (sApp 4 (pC .non)) (bSeq (sApp 4 (pCall (on1 gSum) (aCons (pLc 0 (iSeq (pSl (pBv 3) oNone (oSome (pBv 8)))) (.tp [.nm 12, .nm 11]) ([12, 11]) bYes (pVar 12)) aNil))) (bSeq (sAsg 9 (pSl (pTup (aCons (pTup (aCons (pVar 7) (aCons (pC (.bl false)) aNil))) (aCons (pTup (aCons (pOp2 gSub (pOp2 gIx (pOp2 gIx (pBv 3) (pBv 8)) (pC (.int 0))) (pBv 7)) (aCons (pC (.bl true)) aNil))) aNil))) oNone (oSome (pOp2 gAdd (pC (.int 1)) (pCall (on1 gInt) (aCons (pOp2 (gCmpI fun i j => decide (j < i)) (pOp2 gIx (pOp2 gIx (pBv 3) (pBv 8)) (pC (.int 0))) (pBv 7)) aNil)))))) (bSeq (sAsg 10 (pOp2 gAdd (pOp2 gAdd (pSl (pBv 3) oNone (oSome (pBv 8))) (pBv 9)) (pSl (pBv 3) (oSome (pOp2 gAdd (pBv 8) (pC (.int 1)))) oNone))) (bSeq (sIf (bNot (bVal (pFn m_law_like [] (aCons (pFn m_room_taken [] (aCons (pBv 3) (aCons (pBv 8) (aCons (pBv 7) aNil)))) (aCons (pBv 10) aNil))))) (sRet (pC .non)) bNil) (sAsg 3 (pVar 10))))))))))) (sIf (bAnd (bVal (pOp2 (gCmpI fun i j => decide (i < j)) (pBv 7) (pCall (on1 gLen) (aCons (pBv 5) aNil)))) (bVal (pOp2 gIx (pBv 5) (pBv 7)))) (bSeq (sAsg 8 (pFn m_law_place [] (aCons (pBv 3) (aCons (pOp2 gIx (pBv 4) (pBv 7)) aNil)))) (bSeq (sAsg 10 (pFn m_law_given [] (aCons (pBv 3) (aCons (pBv 8) aNil)))) (bSeq (sIf (bNot (bVal (pFn m_law_like [] (aCons (pFn m_room_given [] (aCons (pBv 3) (aCons (pBv 8) aNil))) (aCons (pBv 10) aNil))))) (sRet (pC .non)) bNil) (sParS 5 (pBv 7) 3 (aCons (pC (.bl false)) (aCons (pVar 10) aNil)))))) bNil)) (bSeq (sAsg 11 (pLc 0 (iSeq (pVar 3)) (.tp [.nm 12, .nm 13]) ([12, 13]) (bTru (pBv 13)) (pVar 12))) (bFrz 11 (sIf (bNot (bVal (pFn m_law_like [] (aCons (pFn m_lost_room [] (aCons (pBv 3) aNil)) (aCons (pOp2 gSub (pCall (on1 gSum) (aCons (pBv 11) aNil)) (pCall (on1 gMax) (aCons (pOp2 gAdd (pBv 11) (pLst (aCons (pC (.int 0)) aNil))) aNil))) aNil))))) (sRet (pC .non)) bNil))))) (sRet (pCall (on1 gTupOf) (aCons (pBv 4) aNil))))
def m_law_run : List D → Option W := mkM 14 3 b_law_run
def b_begin_of : Fs := sRet (pCall (on1 gSum) (aCons (pLc 0 (iSeq (pSl (pBv 0) oNone (oSome (pBv 1)))) (.nm 2) [2] bYes (pOp2 gIx (pBv 2) (pC (.int 0)))) aNil))
def m_begin_of : List D → Option W := mkM 3 2 b_begin_of
def b_place_of : Fs := bSeq (sAsg 3 (pC (.int 0))) (bSeq (sFor (iEnum (pVar 0)) (.tp [.nm 4, .tp [.nm 5, .nm 6]]) (bSeq (sIf (bAnd (bVal (pOp2 gEq (pBv 3) (pBv 1))) (bAnd (bVal (pOp2 gEq (pBv 5) (pBv 2))) (bNot (bTru (pBv 6))))) (sRet (pBv 4)) bNil) (sAug 3 gAddI (pBv 5)))) (sRet (pC .non)))
def m_place_of : List D → Option W := mkM 7 3 b_place_of
def b_rooms_run : Fs := bSeq (sAsg 3 (pTup (aCons (pTup (aCons (pVar 1) (aCons (pC (.bl true)) aNil))) aNil))) (bSeq (sAsg 4 (pLst aNil)) (bSeq (sAsg 5 (pDNew 0 false)) (bSeq (sFor (iSeq (pVar 2)) (.tp [.nm 6, .nm 7]) (sIf (bVal (pOp2 gEq (pBv 6) (pC (.str "take")))) (bSeq (sAsg 8 (pIf (bVal (pOp2 gEq (pBv 0) (pC (.str "first")))) (pFn m_first_room [] (aCons (pBv 3) (aCons (pBv 7) aNil))) (pFn m_best_room [] (aCons (pBv 3) (aCons (pBv 7) aNil))))) (sIf (bVal (pOp2 gIsN (pBv 8) (pC .non))) (sApp 4 (pC .non)) (bSeq (sPut 5 (pCall (on1 gLen) (aCons (pBv 4) aNil)) (pVar 7)) (bSeq (sApp 4 (pFn m_begin_of [] (aCons (pBv 3) (aCons (pBv 8) aNil)))) (sAsg 3 (pFn m_room_taken [] (aCons (pBv 3) (aCons (pBv 8) (aCons (pBv 7) aNil))))))))) (sIf (bVal (pOp2 (gDIn false) (pBv 7) (pBv 5))) (sAsgX 3 (pFnX m_room_given [] (aConsX (pBv 3) (aOneX (pFnX m_place_of [] (aConsX (pBv 3) (aConsX (pOp2 gIx (pBv 4) (pBv 7)) (aOneX (pDPop 5 (pBv 7)))))))))) bNil))) (sRet (pCall (on1 gTupOf) (aCons (pBv 4) aNil))))))
def m_rooms_run : List D → Option W := mkM 9 3 b_rooms_run
def b_law_both : Fs := bSeq (sAsg 2 (pCall (on1 gLen) (aCons (pLc 0 (iSeq (pVar 1)) (.tp [.nm 6, .nm 7]) ([6, 7]) (bVal (pOp2 gEq (pBv 6) (pC (.str "take")))) (pVar 6)) aNil))) (bSeq (sAsg 3 (pOp2 gAdd (pOp2 gAdd (pBv 1) (pCall (on1 gTupOf) (aCons (pLc 0 (iRange1 (pBv 2)) (.nm 8) [8] bYes (pTup (aCons (pC (.str "give")) (aCons (pVar 8) aNil)))) aNil))) (pTup (aCons (pTup (aCons (pC (.str "take")) (aCons (pVar 0) aNil))) (aCons (pTup (aCons (pC (.str "take")) (aCons (pC (.int 1)) aNil))) aNil))))) (bSeq (sFor (iSeq (pTup (aCons (pC (.str "first")) (aCons (pC (.str "best")) aNil)))) (.nm 4) (bSeq (sAsg 5 (pFn m_law_run [] (aCons (pBv 4) (aCons (pBv 0) (aCons (pBv 3) aNil))))) (bSeq (sIf (bOr (bVal (pOp2 gIsN (pBv 5) (pC .non))) (bVal (pOp2 gNe (pSl (pBv 5) (oSome (pBv 2)) oNone) (pTup (aCons (pC (.int 0)) (aCons (pC .non) aNil)))))) (sRet (pC (.bl false))) bNil) (bSeq (sIf (bNot (bVal (pFn m_law_like [] (aCons (pFn m_rooms_run [] (aCons (pBv 4) (aCons (pBv 0) (aCons (pBv 3) aNil)))) (aCons (pBv 5) aNil))))) (sRet (pC (.bl false))) bNil) (sIf (bNot (bVal (pFn m_law_like [] (aCons (pFn m_rooms_run [] (aCons (pBv 4) (aCons (pBv 0) (aCons (pBv 1) aNil)))) (aCons (pSl (pBv 5) oNone (oSome (pBv 2))) aNil))))) (sRet (pC (.bl false))) bNil))))) (sRet (pC (.bl true)))))
def m_law_both : List D → Option W := mkM 9 2 b_law_both
def b_law_apart : Fs := bSeq (sPar [1, 2, 3] (aCons (pOp2 gAdd (pC (.int 5)) (pOp2 gMod (pCall (on1 gInt) (aCons (pOp2 gIx (pBv 0) (pC (.int 22))) aNil)) (pC (.int 9)))) (aCons (pOp2 gAdd (pC (.int 2)) (pOp2 gMod (pCall (on1 gInt) (aCons (pOp2 gIx (pBv 0) (pC (.int 23))) aNil)) (pC (.int 3)))) (aCons (pOp2 gAdd (pC (.int 1)) (pOp2 gMod (pCall (on1 gInt) (aCons (pOp2 gIx (pBv 0) (pC (.int 24))) aNil)) (pC (.int 2)))) aNil)))) (bSeq (sPar [4, 5, 6] (aCons (pOp2 gAdd (pC (.int 1)) (pOp2 gMod (pCall (on1 gInt) (aCons (pOp2 gIx (pBv 0) (pC (.int 25))) aNil)) (pC (.int 4)))) (aCons (pOp2 gAdd (pC (.int 1)) (pOp2 gMod (pCall (on1 gInt) (aCons (pOp2 gIx (pBv 0) (pC (.int 26))) aNil)) (pC (.int 4)))) (aCons (pOp2 gMulI (pOp2 gMod (pCall (on1 gInt) (aCons (pOp2 gIx (pBv 0) (pC (.int 27))) aNil)) (pC (.int 2))) (pOp2 gAdd (pC (.int 20)) (pOp2 gMod (pCall (on1 gInt) (aCons (pOp2 gIx (pBv 0) (pC (.int 28))) aNil)) (pC (.int 9))))) aNil)))) (bSeq (sAsg 7 (pTup (aCons (pTup (aCons (pC (.str "take")) (aCons (pVar 1) aNil))) (aCons (pTup (aCons (pC (.str "take")) (aCons (pVar 4) aNil))) (aCons (pTup (aCons (pC (.str "take")) (aCons (pVar 2) aNil))) (aCons (pTup (aCons (pC (.str "take")) (aCons (pVar 5) aNil))) (aCons (pTup (aCons (pC (.str "give")) (aCons (pC (.int 0)) aNil))) (aCons (pTup (aCons (pC (.str "give")) (aCons (pC (.int 2)) aNil))) (aCons (pTup (aCons (pC (.str "take")) (aCons (pVar 3) aNil))) aNil))))))))) (bSeq (sAsg 8 (pOp2 gAdd (pOp2 gAdd (pOp2 gAdd (pOp2 gAdd (pBv 1) (pBv 4)) (pBv 2)) (pBv 5)) (pBv 6))) (bSeq (sAsg 9 (pTup (aCons (pC (.int 0)) (aCons (pVar 1) (aCons (pOp2 gAdd (pBv 1) (pBv 4)) (aCons (pOp2 gAdd (pOp2 gAdd (pBv 1) (pBv 4)) (pBv 2)) aNil)))))) (bSeq (sIf (bNot (bVal (pFn m_law_like [] (aCons (pFn m_rooms_run [] (aCons (pC (.str "first")) (aCons (pBv 8) (aCons (pBv 7) aNil)))) (aCons (pOp2 gAdd (pBv 9) (pTup (aCons (pC (.int 0)) aNil))) aNil))))) (sRet (pC (.bl false))) bNil) (sRet (pFn m_law_like [] (aCons (pFn m_rooms_run [] (aCons (pC (.str "best")) (aCons (pBv 8) (aCons (pBv 7) aNil)))) (aCons (pOp2 gAdd (pBv 9) (pTup (aCons (pOp2 gAdd (pBv 1) (pBv 4)) aNil))) aNil)))))))))
def m_law_apart : List D → Option W := mkM 10 1 b_law_apart
def b_linked : Fs := bSeq (sPar [2, 3, 4, 5] (aCons (pDNew 0 true) (aCons (pDNew 0 false) (aCons (pDNew 0 false) (aCons (pC (.int 0)) aNil))))) (bSeq (sFor (iSeq (pVar 1)) (.nm 6) (bSeq (sAsgT (.tp [.nm 7, .nm 8, .nm 9]) (pOp2 gIx (pBv 0) (pBv 6))) (bSeq (sFor (iSeq (pVar 7)) (.nm 10) (bSeq (sPut 2 (pTup (aCons (pVar 10) (aCons (pVar 5) aNil))) (pC (.bl true))) (sPut 3 (pBv 10) (pOp2 gAdd (pGet2 (pBv 3) (pBv 10) (pC (.int 0))) (pC (.int 1)))))) (bSeq (sFor (iSeq (pVar 8)) (.nm 10) (sPut 4 (pBv 10) (pC (.bl true)))) (sAug 5 gAddI (pBv 9)))))) (bFrz 4 (bFrz 3 (bSeq (sAsg 11 (pOp2 gAdd (pLcD 3 0 (.nm 10) [10] (bVal (pOp2 (gCmpI fun i j => decide (j < i)) (pOp2 gDGet (pBv 3) (pBv 10)) (pC (.int 1)))) (pVar 10)) (pLcD 4 0 (.nm 10) [10] (bVal (pOp2 (gDIn true) (pBv 10) (pBv 3))) (pVar 10)))) (sRet (pTup (aCons (pCall (on1 gTupOf) (aCons (pSortedD (pBv 2)) aNil)) (aCons (pCall (on1 gTupOf) (aCons (pCall (on1 gSorted) (aCons (pBv 11) aNil)) aNil)) aNil))))))))
def m_linked : List D → Option W := mkM 12 2 b_linked
def b_needed_parts : Fs := bSeq (sAsg 2 (pDNew 1 false)) (bSeq (sFor (iEnum (pVar 0)) (.tp [.nm 3, .nm 4]) (sFor (iSeq (pOp2 gIx (pBv 4) (pC (.int 0)))) (.nm 5) (sSetApp 2 (pBv 5) 3))) (bFrz 2 (bSeq (sPar [6, 7] (aCons (pDisp1 (pBv 1) (pC (.bl true))) (aCons (pLst (aCons (pVar 1) aNil)) aNil))) (bSeq (sWhile 1000000 (bTru (pBv 7)) (bSeq (sPopIx 7 4 0) (sFor (iSeq (pOp2 gIx (pBv 4) (pC (.int 1)))) (.nm 5) (sFor (iSeq (pGet2 (pBv 2) (pBv 5) (pTup aNil))) (.nm 3) (sIf (bVal (pOp2 (gDIn true) (pBv 3) (pBv 6))) (bSeq (sPut 6 (pBv 3) (pC (.bl true))) (sApp 7 (pVar 3))) bNil))))) (sRet (pCall (on1 gTupOf) (aCons (pSortedD (pBv 6)) aNil)))))))
def m_needed_parts : List D → Option W := mkM 8 2 b_needed_parts
def b_law_links : Fs := bSeq (sPar [1, 2] (aCons (pLst aNil) (aCons (pOp2 gAdd (pC (.int 1)) (pOp2 gMod (pCall (on1 gInt) (aCons (pOp2 gIx (pBv 0) (pC (.int 29))) aNil)) (pC (.int 6)))) aNil))) (bSeq (sFor (iRange1 (pBv 2)) (.nm 3) (bSeq (sPar [4, 5] (aCons (pCall (on1 gInt) (aCons (pOp2 gIx (pBv 0) (pOp2 gAdd (pC (.int 30)) (pBv 3))) aNil)) (aCons (pCall (on1 gInt) (aCons (pOp2 gIx (pBv 0) (pOp2 gAdd (pC (.int 36)) (pBv 3))) aNil)) aNil))) (bSeq (sAsg 6 (pOp2 gAdd (pLst (aCons (pOp2 gIx (pC (.str "abcdef")) (pBv 3)) aNil)) (pOp2 gMulL (pLst (aCons (pOp2 gIx (pC (.str "abcdef")) (pOp2 gMod (pOp2 gFdiv (pBv 4) (pC (.int 7))) (pC (.int 6)))) aNil)) (pCall (on1 gInt) (aCons (pOp2 gEq (pOp2 gMod (pBv 4) (pC (.int 7))) (pC (.int 0))) aNil))))) (bSeq (sAsg 7 (pSl (pLst (aCons (pOp2 gIx (pC (.str "abcdefg")) (pOp2 gMod (pBv 5) (pOp2 gAdd (pBv 2) (pOp2 gMod (pCall (on1 gInt) (aCons (pOp2 gIx (pBv 0) (pC (.int 42))) aNil)) (pC (.int 2)))))) (aCons (pOp2 gIx (pC (.str "abcdefg")) (pOp2 gMod (pOp2 gFdiv (pBv 5) (pC (.int 7))) (pBv 2))) aNil))) oNone (oSome (pOp2 gMod (pOp2 gFdiv (pBv 5) (pC (.int 49))) (pC (.int 3)))))) (sApp 1 (pTup (aCons (pCall (on1 gTupOf) (aCons (pCall (on1 gSetSort) (aCons (pBv 6) aNil)) aNil)) (aCons (pCall (on1 gTupOf) (aCons (pCall (on1 gSetSort) (aCons (pBv 7) aNil)) aNil)) (aCons (pOp2 gAdd (pC (.int 1)) (pOp2 gMod (pOp2 gFdiv (pBv 4) (pC (.int 42))) (pC (.int 9)))) aNil))))))))) (bSeq (sPar [8, 9] (aCons (pLst aNil) (aCons (pLstRg (iRange1 (pBv 2))) aNil))) (bSeq (sFor (iRange1 (pBv 2)) (.nm 3) (bSeq (sAsg 10 (pOp2 gMod (pCall (on1 gInt) (aCons (pOp2 gIx (pBv 0) (pOp2 gAdd (pC (.int 43)) (pBv 3))) aNil)) (pCall (on1 gLen) (aCons (pBv 9) aNil)))) (bSeq (sApp 8 (pOp2 gIx (pBv 9) (pBv 10))) (sAsg 9 (pOp2 gAdd (pSl (pBv 9) oNone (oSome (pBv 10))) (pSl (pBv 9) (oSome (pOp2 gAdd (pBv 10) (pC (.int 1)))) oNone)))))) (bSeq (sPar [11, 12, 13, 14, 15] (aCons (pLst aNil) (aCons (pLst aNil) (aCons (pLst aNil) (aCons (pC (.int 0)) (aCons (pLst aNil) aNil)))))) (bFrz 8 (bSeq (sFor (iSeq (pVar 8)) (.nm 16) (bSeq (sExtT 11 (pOp2 gIx (pOp2 gIx (pBv 1) (pBv 16)) (pC (.int 0)))) (bSeq (sExtT 12 (pOp2 gIx (pOp2 gIx (pBv 1) (pBv 16)) (pC (.int 1)))) (bSeq (sExt 13 (pLc 0 (iSeq (pOp2 gIx (pOp2 gIx (pBv 1) (pBv 16)) (pC (.int 0)))) (.nm 25) [25] bYes (pTup (aCons (pVar 25) (aCons (pVar 14) aNil))))) (bSeq (sApp 15 (pVar 14)) (sAsg 14 (pOp2 gAdd (pBv 14) (pOp2 gIx (pOp2 gIx (pBv 1) (pBv 16)) (pC (.int 2)))))))))) (bSeq (sAsg 17 (pOp2 gAdd (pLc 0 (iLc (pBv 11)) (.nm 25) [25] (bVal (pOp2 (gCmpI fun i j => decide (j < i)) (pOp2 gCount (pBv 11) (pBv 25)) (pC (.int 1)))) (pVar 25)) (pLc 0 (iLc (pBv 12)) (.nm 25) [25] (bVal (pOp2 (gIn true) (pBv 25) (pBv 11))) (pVar 25)))) (bSeq (sAsgT (.tp [.nm 18, .nm 19]) (pFn m_linked [] (aCons (pCall (on1 gTupOf) (aCons (pBv 1) aNil)) (aCons (pCall (on1 gTupOf) (aCons (pBv 8) aNil)) aNil)))) (bSeq (sAsg 20 (pCall (on1 gTupOf) (aCons (pLc 0 (iSeq (pVar 18)) (.nm 26) [26] (bVal (pOp2 (gIn true) (pOp2 gIx (pBv 26) (pC (.int 0))) (pBv 17))) (pVar 26)) aNil))) (bSeq (sIf (bNot (bVal (pFn m_law_like [] (aCons (pBv 20) (aCons (pCall (on1 gTupOf) (aCons (pCall (on1 gSorted) (aCons (pLc 0 (iLc (pBv 13)) (.nm 26) [26] (bVal (pOp2 (gIn true) (pOp2 gIx (pBv 26) (pC (.int 0))) (pBv 17))) (pVar 26)) aNil)) aNil)) aNil))))) (sRet (pC (.bl false))) bNil) (bSeq (sIf (bNot (bVal (pFn m_law_like [] (aCons (pBv 19) (aCons (pCall (on1 gTupOf) (aCons (pCall (on1 gSetSort) (aCons (pBv 17) aNil)) aNil)) aNil))))) (sRet (pC (.bl false))) bNil) (bSeq (sAsg 21 (pCall (on1 gTupOf) (aCons (pLc 0 (iSeq (pVar 8)) (.nm 16) [16] bYes (pTup (aCons (pC (.str "take")) (aCons (pOp2 gIx (pOp2 gIx (pBv 1) (pBv 16)) (pC (.int 2))) aNil)))) aNil))) (bSeq (sFor (iSeq (pTup (aCons (pC (.str "first")) (aCons (pC (.str "best")) aNil)))) (.nm 22) (sIf (bNot (bVal (pFn m_law_like [] (aCons (pFn m_rooms_run [] (aCons (pBv 22) (aCons (pOp2 gAdd (pBv 14) (pOp2 gMod (pCall (on1 gInt) (aCons (pOp2 gIx (pBv 0) (pC (.int 49))) aNil)) (pC (.int 5)))) (aCons (pBv 21) aNil)))) (aCons (pCall (on1 gTupOf) (aCons (pBv 15) aNil)) aNil))))) (sRet (pC (.bl false))) bNil)) (bSeq (sIf (bVal (pOp2 (gCmpI fun i j => decide (i < j)) (pCall (on1 gSetLen) (aCons (pBv 11) aNil)) (pCall (on1 gLen) (aCons (pBv 11) aNil)))) (sRet (pC (.bl true))) bNil) (bSeq (sAsg 23 (pLst (aCons (pOp2 gMod (pCall (on1 gInt) (aCons (pOp2 gIx (pBv 0) (pC (.int 50))) aNil)) (pBv 2)) aNil))) (bSeq (sFor (iRange1 (pBv 2)) (.nm 24) (bSeq (sAsg 7 (pLst aNil)) (bFrz 23 (bSeq (sFor (iSeq (pVar 23)) (.nm 16) (sExtT 7 (pOp2 gIx (pOp2 gIx (pBv 1) (pBv 16)) (pC (.int 1))))) (sAsg 23 (pCall (on1 gSetSort) (aCons (pOp2 gAdd (pBv 23) (pLc 0 (iRange1 (pBv 2)) (.nm 16) [16] (bVal (pCall (on1 gAny) (aCons (pLc 0 (iSeq (pOp2 gIx (pOp2 gIx (pBv 1) (pBv 16)) (pC (.int 0)))) (.nm 25) [25] bYes (pOp2 (gIn false) (pBv 25) (pBv 7))) aNil))) (pVar 16))) aNil))))))) (sRet (pFn m_law_like [] (aCons (pFn m_needed_parts [] (aCons (pCall (on1 gTupOf) (aCons (pBv 1) aNil)) (aCons (pOp2 gMod (pCall (on1 gInt) (aCons (pOp2 gIx (pBv 0) (pC (.int 50))) aNil)) (pBv 2)) aNil))) (aCons (pCall (on1 gTupOf) (aCons (pBv 23) aNil)) aNil))))))))))))))))))))
def m_law_links : List D → Option W := mkM 27 1 b_law_links
def b_law_deeds : Fs := bSeq (sPar [1, 2] (aCons (pLst aNil) (aCons (pC (.int 0)) aNil))) (bSeq (sFor (iRange1 (pOp2 gMod (pCall (on1 gInt) (aCons (pOp2 gIx (pBv 0) (pC (.int 0))) aNil)) (pC (.int 21)))) (.nm 3) (bSeq (sAsg 4 (pCall (on1 gInt) (aCons (pOp2 gIx (pBv 0) (pOp2 gAdd (pC (.int 1)) (pBv 3))) aNil))) (sIf (bOr (bVal (pOp2 (gCmpI fun i j => decide (i < j)) (pOp2 gMod (pBv 4) (pC (.int 5))) (pC (.int 3)))) (bVal (pOp2 gEq (pBv 2) (pC (.int 0))))) (bSeq (sApp 1 (pTup (aCons (pC (.str "take")) (aCons (pOp2 gAdd (pC (.int 1)) (pOp2 gMod (pOp2 gFdiv (pBv 4) (pC (.int 5))) (pC (.int 12)))) aNil)))) (sAsg 2 (pOp2 gAdd (pBv 2) (pC (.int 1))))) (sApp 1 (pTup (aCons (pC (.str "give")) (aCons (pOp2 gIx (pTup (aCons (pOp2 gMod (pOp2 gFdiv (pBv 4) (pC (.int 5))) (pBv 2)) (aCons (pOp2 gAdd (pC (.int 50)) (pBv 2)) aNil))) (pCall (on1 gInt) (aCons (pOp2 gEq (pOp2 gMod (pOp2 gFdiv (pBv 4) (pC (.int 100))) (pC (.int 9))) (pC (.int 0))) aNil))) aNil))))))) (sRet (pCall (on1 gTupOf) (aCons (pBv 1) aNil))))
def m_law_deeds : List D → Option W := mkM 5 1 b_law_deeds
def b_law : Fs := bSeq (sAsg 1 (pFn m_law_row [] (aCons (pBv 0) (aCons (pC (.int 54)) aNil)))) (bSeq (sIf (bNot (bVal (pFn m_law_both [] (aCons (pOp2 gAdd (pC (.int 8)) (pOp2 gMod (pCall (on1 gInt) (aCons (pOp2 gIx (pBv 1) (pC (.int 21))) aNil)) (pC (.int 53)))) (aCons (pFn m_law_deeds [] (aCons (pBv 1) aNil)) aNil))))) (sRet (pC (.bl false))) bNil) (sRet (pAnd (pFn m_law_apart [] (aCons (pBv 1) aNil)) (pFn m_law_links [] (aCons (pBv 1) aNil)))))
def m_law : List D → Option W := mkM 2 1 b_law
end K38
set_option Elab.async false
set_option linter.all false
set_option maxRecDepth 100000
/-! J8: rows of rooms -/
namespace HP
open PySem L2 Pv
theorem noBoxs_all {ds : List D} (h : ∀ d ∈ ds, noBox d = true) : noBoxs ds = true := by
  induction ds with
  | nil => rfl
  | cons d ds ih =>
    show (noBox d && noBoxs ds) = true
    rw [h d List.mem_cons_self, ih fun e he => h e (List.mem_cons_of_mem _ he)]; rfl
def rm (p : Nat × Bool) : D := .tup [.int (p.1 : Int), .bl p.2]
def rmD (L : List (Nat × Bool)) : D := .tup (L.map rm)
section
variable {k l : Nat} {L : List (Nat × Bool)}
@[simp] theorem rm_0 {p : Nat × Bool} : gIx (k, rm p) (l, .int 0) = some (0, .int (p.1 : Int)) := by unfold rm; simp
@[simp] theorem rm_1 {p : Nat × Bool} : gIx (k, rm p) (l, .int 1) = some (0, .bl p.2) := by unfold rm; simp
@[simp] theorem rm_ix {i : Nat} : gIx (k, rmD L) (l, .int (i : Int)) = (L[i]?).map fun p => (0, rm p) := by
  unfold rmD
  rw [ix_t, atI_n]
  simp; rfl
@[simp] theorem rm_len : gLen (k, rmD L) = some (0, .int (L.length : Int)) := by unfold rmD; simp
@[simp] theorem rm_seq : seqD (rmD L) = some (false, L.map rm) := rfl
@[simp] theorem rm_box : isBox (rmD L) = false := rfl
@[simp] theorem rm_bx {p : Nat × Bool} : isBox (rm p) = false := rfl
@[simp] theorem rm_pre {p : Nat} : gSl (k, rmD L) none (some (p : Int)) = some (0, .tup ((L.take p).map rm)) := by
  unfold rmD; rw [sl_t, cut_take, List.map_take]
@[simp] theorem rm_post {p : Nat} : gSl (k, rmD L) (some (p : Int)) none = some (0, .tup ((L.drop p).map rm)) := by
  unfold rmD; rw [sl_t, cut_drop, List.map_drop]
@[simp] theorem rm_mid {p q : Nat} : gSl (k, rmD L) (some (p : Int)) (some (q : Int)) = some (0, .tup (((L.take q).drop p).map rm)) := by
  unfold rmD; rw [sl_t, cut_both, List.map_drop, List.map_take]
theorem rm_nob (L : List (Nat × Bool)) : noBox (rmD L) = true := noBoxs_all fun d hd => by obtain ⟨f, _, rfl⟩ := List.mem_map.mp hd; rfl
end
theorem place_run (L : List (Nat × Bool)) (b : Nat) : ∃ p, p ≤ L.length ∧ K38.m_law_place [rmD L, .int (b : Int)] = some (0, .int (p : Int)) := by
  have main : ∃ w, K38.m_law_place [rmD L, .int (b : Int)] = some w ∧ ∃ p, p ≤ L.length ∧ w = (0, .int ((p : Nat) : Int)) := by
    refine def_ex _ rfl (fun w ⟨p, _, e⟩ => by rw [e]; rfl) fun Q hQ => ?_
    unfold K38.b_law_place
    simp
    refine wp_for (inj := rm) L (fun pre ρ => ∃ (p s : Nat) (x y : Option W), p ≤ pre.length ∧ ρ = [some (0, rmD L), some (0, .int (b : Int)), some (0, .int (p : Int)), some (0, .int (s : Int)), x, y]) rfl ⟨0, 0, none, none, Nat.le_refl _, by simp⟩ ?_ ?_
    · rintro pre ⟨s1, f1⟩ post ρ hp ⟨p, s, x, y, hle, rfl⟩
      unfold rm
      by_cases q : s < b
      · simp [q]
        exact ⟨p + 1, by omega, by simp, s + s1, by simp⟩
      · simp [q]
        exact ⟨p, by omega, rfl, s + s1, by simp⟩
    · rintro ρ ⟨p, s, x, y, hle, rfl⟩
      simp
      exact hQ _ _ ⟨p, hle, rfl⟩
  obtain ⟨w, e, p, hp, rfl⟩ := main
  exact ⟨p, hp, e⟩
def frAt (L : List (Nat × Bool)) (i : Nat) : Bool := match L[i]? with
  | some p => p.2
  | none => false
def loG (L : List (Nat × Bool)) (p : Nat) : Nat := if 0 < p ∧ frAt L (p - 1) = true then p - 1 else p
def hiG (L : List (Nat × Bool)) (p : Nat) : Nat := if p + 1 < L.length ∧ frAt L (p + 1) = true then p + 2 else p + 1
def giv (L : List (Nat × Bool)) (p : Nat) : List (Nat × Bool) := L.take (loG L p) ++ [((((L.take (hiG L p)).drop (loG L p)).map Prod.fst).sum, true)] ++ L.drop (hiG L p)
theorem giv_len (L : List (Nat × Bool)) (p : Nat) (h : p ≤ L.length) : (giv L p).length ≤ L.length + 1 := by
  unfold giv loG hiG
  simp
  split <;> split <;> omega
theorem law_given_run (L : List (Nat × Bool)) (p : Nat) (hp : p ≤ L.length) (hl : L.length ≤ 1000) : K38.m_law_given [rmD L, .int (p : Int)] = some (0, rmD (giv L p)) := by
  refine def_of0 rfl (rm_nob _) fun Q hQ => ?_
  unfold K38.b_law_given
  have hq := hQ
  unfold giv at hq
  have hp0 : ((0 : Int) < (p : Int)) ↔ 0 < p := by omega
  have hpl : ((p : Int) + 1 < (L.length : Int)) ↔ p + 1 < L.length := by omega
  obtain ⟨r, hr⟩ : ∃ r : Nat, r = p + 1 := ⟨_, rfl⟩
  have hr' : (p : Int) + 1 = (r : Int) := by omega
  have hrl : ((r : Int) < (L.length : Int)) ↔ r < L.length := by omega
  have rest : ∀ (lo : Nat) (x y : Option W), lo ≤ p → (loG L p = lo) → lvl0 (some x) = true → lvl0 (some y) = true → Wp (bSeq (sIf (bAnd (bVal (pOp2 (gCmpI fun i j => decide (i < j)) (pBv 3) (pCall (on1 gLen) (aCons (pBv 0) aNil)))) (bVal (pOp2 gIx (pOp2 gIx (pBv 0) (pBv 3)) (pC (.int 1))))) (sAsg 3 (pOp2 gAdd (pBv 3) (pC (.int 1)))) bNil) (sRet (pOp2 gAdd (pOp2 gAdd (pSl (pBv 0) oNone (oSome (pBv 2))) (pTup (aCons (pTup (aCons (pCall (on1 gSum) (aCons (pLc 0 (iSeq (pSl (pBv 0) (oSome (pBv 2)) (oSome (pBv 3)))) (.tp [.nm 4, .nm 5]) ([4, 5]) bYes (pVar 4)) aNil)) (aCons (pC (.bl true)) aNil))) aNil))) (pSl (pBv 0) (oSome (pBv 3)) oNone))) [some (0, rmD L), some (0, .int (p : Int)), some (0, .int (lo : Int)), some (0, .int (r : Int)), x, y]) Q := by
    intro lo x y hlo elo hx hy
    have fin : ∀ (hi : Nat), hiG L p = hi → ∀ z, Q (.rt (0, .tup ((L.take lo).map rm ++ .tup [.int ((((L.take hi).drop lo).map fun p => (p.1 : Int)).sum), .bl true] :: (L.drop hi).map rm))) z := fun hi ehi z => by
      have := hq z
      rw [elo, ehi] at this
      rw [sum_cast Prod.fst]
      unfold rmD at this
      simpa [rm] using this
    have ge : ∀ hi : Nat, compL (.tp [.nm 4, .nm 5]) bYes (pVar 4) 0 [some (0, rmD L), some (0, .int (p : Int)), some (0, .int (lo : Int)), some (0, .int (hi : Int)), none, none] (((L.take hi).drop lo).map rm) = some (((L.take hi).drop lo).map fun p => .int (p.1 : Int)) := fun hi => by
      refine comp_map (fun p : Nat × Bool => .int (p.1 : Int)) fun a ha => ?_
      unfold rm
      simp
    have b1 : ∀ hi, ((L.take hi).drop lo).length ≤ 1000000 := fun hi => by simp; omega
    have b2 : min lo L.length + 1 ≤ 1000000 := by omega
    have b3 : ∀ hi, min lo L.length + 1 + (L.length - hi) ≤ 1000000 := fun hi => by omega
    have b4 : ∀ hi, min hi L.length - lo ≤ 1000000 := fun hi => by omega
    have sm : ∀ hi, gSum (1, .lst (((L.take hi).drop lo).map fun p => .int (p.1 : Int))) = some (0, .int ((((L.take hi).drop lo).map fun p => (p.1 : Int)).sum)) := fun hi => sum_ints _ _
    simp only [List.map_drop, List.map_take] at ge sm fin
    by_cases h1 : r < L.length
    · have hL := List.getElem?_eq_getElem h1
      have hfr : frAt L (p + 1) = L[r].2 := by
        unfold frAt
        rw [← hr, hL]
      have hhi : hiG L p = if L[r].2 = true then p + 2 else p + 1 := by
        unfold hiG
        rw [hfr]
        have : p + 1 < L.length := by omega
        simp [this]
      cases hb : L[r].2 with
      | true =>
        rw [hb, if_pos rfl] at hhi
        have hs : (r : Int) + 1 = ((p + 2 : Nat) : Int) := by omega
        simp -implicitDefEqProofs [hrl, h1, hb, hs, -Int.natCast_add, hx, hy, ge, b1, b2, b3, b4, sm]
        exact fin _ hhi _
      | false =>
        rw [hb, if_neg (by simp)] at hhi
        rw [← hr] at hhi
        simp -implicitDefEqProofs [hrl, h1, hb, -Int.natCast_add, hx, hy, ge, b1, b2, b3, b4, sm]
        exact fin _ hhi _
    · have hhi : hiG L p = r := by
        unfold hiG
        rw [if_neg (fun z => h1 (by omega))]; exact hr.symm
      simp -implicitDefEqProofs [hrl, h1, -Int.natCast_add, hx, hy, ge, b1, b2, b3, b4, sm]
      exact fin _ hhi _
  by_cases h0 : 0 < p
  · obtain ⟨m, rfl⟩ : ∃ m, p = m + 1 := ⟨p - 1, by omega⟩
    have hm : m < L.length := by omega
    have hm1 : ((m + 1 : Nat) : Int) - 1 = (m : Int) := by omega
    have hL := List.getElem?_eq_getElem hm
    have hfr : frAt L m = L[m].2 := by unfold frAt; rw [hL]
    have hlo : loG L (m + 1) = if L[m].2 = true then m else m + 1 := by
      unfold loG
      simp [hfr]
    cases hb : L[m].2 with
    | true =>
      rw [hb, if_pos rfl] at hlo
      have R := rest m none none (by omega) hlo rfl rfl
      simp -implicitDefEqProofs [hp0, h0, hm1, hm, hb, hr', -Int.natCast_add] at R ⊢
      exact R
    | false =>
      rw [hb, if_neg (by simp)] at hlo
      have R := rest (m + 1) none none (by omega) hlo rfl rfl
      simp -implicitDefEqProofs [hp0, h0, hm1, hm, hb, hr', -Int.natCast_add] at R ⊢
      exact R
  · have hlo : loG L p = p := by unfold loG; rw [if_neg (fun z => h0 z.1)]
    have R := rest p none none (Nat.le_refl _) hlo rfl rfl
    simp -implicitDefEqProofs [hp0, h0, hr', -Int.natCast_add] at R ⊢
    exact R
theorem room_given_run (L : List (Nat × Bool)) (p : Nat) (hp : p ≤ L.length) (hl : L.length ≤ 1000) : K38.m_room_given [rmD L, .int (p : Int)] = some (0, rmD (giv L p)) := by
  refine def_of0 rfl (rm_nob _) fun Q hQ => ?_
  unfold K38.b_room_given
  have hq := hQ
  unfold giv at hq
  have hp0 : ((0 : Int) < (p : Int)) ↔ 0 < p := by omega
  obtain ⟨r, hr⟩ : ∃ r : Nat, r = p + 1 := ⟨_, rfl⟩
  have hr' : (p : Int) + 1 = (r : Int) := by omega
  have hrl : ((r : Int) < (L.length : Int)) ↔ r < L.length := by omega
  have rest : ∀ (lo : Nat), lo ≤ p → (loG L p = lo) → Wp (bSeq (sAsg 3 (pIf (bAnd (bVal (pOp2 (gCmpI fun i j => decide (i < j)) (pOp2 gAdd (pBv 1) (pC (.int 1))) (pCall (on1 gLen) (aCons (pBv 0) aNil)))) (bVal (pOp2 gIx (pOp2 gIx (pBv 0) (pOp2 gAdd (pBv 1) (pC (.int 1)))) (pC (.int 1))))) (pOp2 gAdd (pBv 1) (pC (.int 1))) (pVar 1))) (bSeq (sAsg 4 (pCall (on1 gSum) (aCons (pLc 0 (iSeq (pSl (pBv 0) (oSome (pBv 2)) (oSome (pOp2 gAdd (pBv 3) (pC (.int 1)))))) (.nm 5) [5] bYes (pOp2 gIx (pBv 5) (pC (.int 0)))) aNil))) (sRet (pOp2 gAdd (pOp2 gAdd (pSl (pBv 0) oNone (oSome (pBv 2))) (pTup (aCons (pTup (aCons (pVar 4) (aCons (pC (.bl true)) aNil))) aNil))) (pSl (pBv 0) (oSome (pOp2 gAdd (pBv 3) (pC (.int 1)))) oNone)))) [some (0, rmD L), some (0, .int (p : Int)), some (0, .int (lo : Int)), none, none, none]) Q := by
    intro lo hlo elo
    have fin : ∀ (hi : Nat), hiG L p = hi → ∀ z, Q (.rt (0, .tup ((L.take lo).map rm ++ .tup [.int ((((L.take hi).drop lo).map fun p => (p.1 : Int)).sum), .bl true] :: (L.drop hi).map rm))) z := fun hi ehi z => by
      have := hq z
      rw [elo, ehi] at this
      rw [sum_cast Prod.fst]
      unfold rmD at this
      simpa [rm] using this
    have ge : ∀ (hi hj : Nat), compL (.nm 5) bYes (pOp2 gIx (pBv 5) (pC (.int 0))) 0 [some (0, rmD L), some (0, .int (p : Int)), some (0, .int (lo : Int)), some (0, .int (hj : Int)), none, none] (((L.take hi).drop lo).map rm) = some (((L.take hi).drop lo).map fun p => .int (p.1 : Int)) := fun hi hj => by
      refine comp_map (fun p : Nat × Bool => .int (p.1 : Int)) fun a ha => ?_
      simp
    have b2 : min lo L.length + 1 ≤ 1000000 := by omega
    have b3 : ∀ hi, min lo L.length + 1 + (L.length - hi) ≤ 1000000 := fun hi => by omega
    have b4 : ∀ hi, min hi L.length - lo ≤ 1000000 := fun hi => by omega
    have sm : ∀ hi, gSum (1, .lst (((L.take hi).drop lo).map fun p => .int (p.1 : Int))) = some (0, .int ((((L.take hi).drop lo).map fun p => (p.1 : Int)).sum)) := fun hi => sum_ints _ _
    simp only [List.map_drop, List.map_take] at ge sm fin
    by_cases h1 : r < L.length
    · have hL := List.getElem?_eq_getElem h1
      have hfr : frAt L (p + 1) = L[r].2 := by
        unfold frAt
        rw [← hr, hL]
      have hhi : hiG L p = if L[r].2 = true then p + 2 else p + 1 := by
        unfold hiG
        rw [hfr]
        have : p + 1 < L.length := by omega
        simp [this]
      have hs : (r : Int) + 1 = ((p + 2 : Nat) : Int) := by omega
      cases hb : L[r].2 with
      | true =>
        rw [hb, if_pos rfl] at hhi
        simp -implicitDefEqProofs [hrl, h1, hb, hs, hr', -Int.natCast_add, ge, b2, b3, b4, sm]
        exact fin _ hhi _
      | false =>
        rw [hb, if_neg (by simp)] at hhi
        rw [← hr] at hhi
        simp -implicitDefEqProofs [hrl, h1, hb, hs, hr', -Int.natCast_add, ge, b2, b3, b4, sm]
        exact fin _ hhi _
    · have hhi : hiG L p = r := by
        unfold hiG
        rw [if_neg (fun z => h1 (by omega))]; exact hr.symm
      simp -implicitDefEqProofs [hrl, h1, hr', -Int.natCast_add, ge, b2, b3, b4, sm]
      exact fin _ hhi _
  by_cases h0 : 0 < p
  · obtain ⟨m, rfl⟩ : ∃ m, p = m + 1 := ⟨p - 1, by omega⟩
    have hm : m < L.length := by omega
    have hm1 : ((m + 1 : Nat) : Int) - 1 = (m : Int) := by omega
    have hL := List.getElem?_eq_getElem hm
    have hfr : frAt L m = L[m].2 := by unfold frAt; rw [hL]
    have hlo : loG L (m + 1) = if L[m].2 = true then m else m + 1 := by
      unfold loG
      simp [hfr]
    cases hb : L[m].2 with
    | true =>
      rw [hb, if_pos rfl] at hlo
      have R := rest m (by omega) hlo
      simp -implicitDefEqProofs [hp0, h0, hm1, hm, hb, hr', -Int.natCast_add] at R ⊢
      exact R
    | false =>
      rw [hb, if_neg (by simp)] at hlo
      have R := rest (m + 1) (by omega) hlo
      simp -implicitDefEqProofs [hp0, h0, hm1, hm, hb, hr', -Int.natCast_add] at R ⊢
      exact R
  · have hlo : loG L p = p := by unfold loG; rw [if_neg (fun z => h0 z.1)]
    have R := rest p (Nat.le_refl _) hlo
    simp -implicitDefEqProofs [hp0, h0, hr', -Int.natCast_add] at R ⊢
    exact R
end HP
set_option Elab.async false
set_option linter.all false
set_option maxRecDepth 100000
/-! J9: lost, first, best, taken -/
namespace HP
open PySem L2 Pv
theorem wp_idx {t : Tg} {f : Fs} {ρ : Pv.Env} {Q : Fl → Pv.Env → Prop} {inj : Nat → D} {ds : List D} (n : Nat) (I : Nat → Pv.Env → Prop) (hds : ds = (List.range n).map inj) (h0 : I 0 ρ)
    (hs : ∀ (m : Nat) (ρ : Pv.Env), m < n → I m ρ → bindP t f (inj m) ρ (turnQ (I (m + 1)) Q)) (hQ : ∀ ρ', I n ρ' → Q .nx ρ') : Wp (loopF t f ds ρ) Q := by
  refine wp_for (inj := inj) (List.range n) (fun pre ρ => I pre.length ρ) hds h0 (fun pre a post ρ hp h => ?_) fun ρ' h => hQ ρ' (by simpa using h)
  have hl : pre.length < n := by
    have := congrArg List.length hp
    simp at this; omega
  have ha : a = pre.length := by
    have h1 : (List.range n)[pre.length]? = some a := by rw [hp]; simp
    rw [List.getElem?_range hl] at h1
    exact (Option.some.inj h1).symm
  subst ha
  rw [List.length_append]
  exact hs _ ρ hl h
def rAt (L : List (Nat × Bool)) (i : Nat) : Nat × Bool := L.getD i (0, false)
theorem rAt_get {L : List (Nat × Bool)} {i : Nat} (h : i < L.length) : L[i]? = some (rAt L i) := by
  unfold rAt
  rw [List.getElem?_eq_getElem h]; simp [h]
theorem map_rAt (L : List (Nat × Bool)) : L.map rm = (List.range L.length).map fun i => rm (rAt L i) := by
  refine List.ext_getElem (by simp) fun i h1 h2 => ?_
  have h3 : i < L.length := by simpa using h1
  simp [rAt, h3]
theorem enum_rm (L : List (Nat × Bool)) : enumF 0 (L.map rm) = (List.range L.length).map fun i : Nat => D.tup [.int (i : Int), rm (rAt L i)] := by
  rw [map_rAt, enum_tab]
def okAt (L : List (Nat × Bool)) (z i : Nat) : Bool := (rAt L i).2 && decide (z ≤ (rAt L i).1)
def places (L : List (Nat × Bool)) (z : Nat) : List Nat := (List.range L.length).filter fun i => okAt L z i
def od' : Option Nat → D
  | none => .non
  | some i => .int (i : Int)
theorem od'_box (o : Option Nat) : noBox (od' o) = true := by cases o <;> rfl
/-! lost -/
def frees (L : List (Nat × Bool)) : List (Nat × Bool) := L.filter fun p => p.2
theorem maxI_0 : ∀ (r : List Int) (n : Int), 0 ≤ n → maxI n (r ++ [0]) = maxI n r
  | [], n, h => by
    show maxI (if n < 0 then 0 else n) [] = n
    rw [if_neg (by omega)]; rfl
  | m :: r, n, h => by
    show maxI (if n < m then m else n) (r ++ [0]) = maxI (if n < m then m else n) r
    refine maxI_0 r _ ?_
    split <;> omega
theorem max_frees (L : List (Nat × Bool)) : gMax (1, .lst ((L.map fun p : Nat × Bool => .int (p.1 : Int)) ++ [.int 0])) = some (0, .int (maxOr 0 (L.map fun p : Nat × Bool => (p.1 : Int)))) := by
  unfold gMax
  rw [ld_l, if_pos (by omega), Option.bind_some]
  have e : (L.map fun p : Nat × Bool => D.int (p.1 : Int)) ++ [D.int 0] = ((L.map fun p : Nat × Bool => (p.1 : Int)) ++ [0]).map fun i => D.int i := by simp
  have e2 := intsD_map (fun i : Int => i) ((L.map fun p : Nat × Bool => (p.1 : Int)) ++ [0])
  rw [e, e2, Option.bind_some, List.map_id']
  cases L with
  | nil => rfl
  | cons p L =>
    show some (0, D.int (maxI (p.1 : Int) ((L.map fun p : Nat × Bool => (p.1 : Int)) ++ [0]))) = _
    rw [maxI_0 _ _ (by omega)]; rfl
theorem lost_run (L : List (Nat × Bool)) (hl : L.length ≤ 1000) : K38.m_lost_room [rmD L] = some (0, .int (((frees L).map fun p : Nat × Bool => (p.1 : Int)).sum - maxOr 0 ((frees L).map fun p : Nat × Bool => (p.1 : Int)))) := by
  refine def_of0 rfl rfl fun Q hQ => ?_
  unfold K38.b_lost_room
  have h1 : L.length ≤ 1000000 := by omega
  simp [h1]
  rw [comp_fm (fun p : Nat × Bool => p.2) (fun p : Nat × Bool => .int (p.1 : Int))]
  · have e1 := sum_ints (fun p : Nat × Bool => (p.1 : Int)) (L.filter fun p => p.2)
    have e2 := fun k => maxDef_ints (k := k) (fun p : Nat × Bool => (p.1 : Int)) (L.filter fun p => p.2) 0
    simp [e1, e2]
    exact hQ _
  · rintro ⟨s, f⟩ hp
    unfold rm
    cases f <;> simp
/-! first -/
theorem places_mem {L : List (Nat × Bool)} {z i : Nat} : i ∈ places L z ↔ i < L.length ∧ okAt L z i = true := by
  unfold places; simp
theorem places_head {L : List (Nat × Bool)} {z m : Nat} (hm : m < L.length) (h : okAt L z m = true) (hb : ∀ j, j < m → okAt L z j = false) : ∃ r, places L z = m :: r := by
  unfold places
  obtain ⟨d, hd⟩ : ∃ d, L.length = m + (d + 1) := ⟨L.length - m - 1, by omega⟩
  rw [hd, List.range_add, List.filter_append, List.filter_eq_nil_iff.mpr fun j hj => by rw [hb j (List.mem_range.mp hj)]; simp]
  rw [List.range_succ_eq_map, List.map_cons, List.nil_append, Nat.add_zero, List.filter_cons_of_pos h]
  exact ⟨_, rfl⟩
theorem step {L : List (Nat × Bool)} {z m : Nat} (hb : ∀ j, j < m → okAt L z j = false) (ho : okAt L z m = false) : ∀ j, j < m + 1 → okAt L z j = false := fun j hj => by
  by_cases e : j = m
  · rw [e]; exact ho
  · exact hb j (by omega)
theorem first_run (L : List (Nat × Bool)) (z : Nat) (hl : L.length ≤ 1000) : K38.m_first_room [rmD L, .int (z : Int)] = some (0, od' (places L z).head?) := by
  refine def_of0 rfl (od'_box _) fun Q hQ => ?_
  unfold K38.b_first_room
  have h1 : L.length ≤ 1000000 := by omega
  simp [enum_rm]
  refine wp_idx L.length (fun m ρ => (∀ j, j < m → okAt L z j = false) ∧ ∃ x y w, ρ = [some (0, rmD L), some (0, .int (z : Int)), x, y, w]) rfl ⟨fun j hj => by omega, _, _, _, rfl⟩ ?_ ?_
  · rintro m ρ hm ⟨hb, x, y, w, rfl⟩
    rw [bindP_tp]
    unfold rm
    have hz : ((z : Int) ≤ ((rAt L m).1 : Int)) ↔ z ≤ (rAt L m).1 := by omega
    cases hf : (rAt L m).2 with
    | false =>
      have ho : okAt L z m = false := by unfold okAt; rw [hf]; rfl
      simp [hf]
      exact step hb ho
    | true =>
      by_cases hs : z ≤ (rAt L m).1
      · have ho : okAt L z m = true := by unfold okAt; rw [hf, decide_eq_true hs]; rfl
        simp [hf, hs]
        obtain ⟨r, hr⟩ := places_head hm ho hb
        have := hQ [some (0, rmD L), some (0, D.int ↑z), some (0, D.int ↑m), some (0, D.int ↑(rAt L m).fst), some (0, D.bl true)]
        rw [hr] at this
        exact this
      · have ho : okAt L z m = false := by unfold okAt; rw [hf, decide_eq_false hs]; rfl
        simp [hf, hs]
        exact step hb ho
  · rintro ρ ⟨hb, x, y, w, rfl⟩
    simp
    have hn : places L z = [] := List.filter_eq_nil_iff.mpr fun j hj => by rw [hb j (List.mem_range.mp hj)]; simp
    have := hQ [some (0, rmD L), some (0, D.int ↑z), x, y, w]
    rw [hn] at this
    exact this
/-! best -/
def sz (L : List (Nat × Bool)) (i : Nat) : Nat := (rAt L i).1
def bests (L : List (Nat × Bool)) (z : Nat) : List (Nat × Nat) := (places L z).map fun i => (sz L i, i)
def bestO (L : List (Nat × Bool)) (z : Nat) : Option Nat := (((bests L z).mergeSort lePr).head?).map Prod.snd
def Bst (L : List (Nat × Bool)) (z n : Nat) : Option Nat → Prop
  | none => ∀ j, j < n → okAt L z j = false
  | some b => b < n ∧ okAt L z b = true ∧ ∀ j, j < n → okAt L z j = true → sz L b < sz L j ∨ (sz L b = sz L j ∧ b ≤ j)
theorem bst_eq {L : List (Nat × Bool)} {z : Nat} {o : Option Nat} (h : Bst L z L.length o) : bestO L z = o := by
  unfold bestO
  cases o with
  | none =>
    have hn : bests L z = [] := by
      unfold bests places
      rw [List.filter_eq_nil_iff.mpr fun j hj => by rw [h j (List.mem_range.mp hj)]; simp]; rfl
    rw [hn, List.mergeSort_nil]; rfl
  | some b =>
    obtain ⟨h1, h2, h3⟩ := h
    have hb : (sz L b, b) ∈ bests L z := List.mem_map.mpr ⟨b, places_mem.mpr ⟨h1, h2⟩, rfl⟩
    cases hs : (bests L z).mergeSort lePr with
    | nil =>
      have := List.length_mergeSort (le := lePr) (bests L z)
      rw [hs] at this
      rw [List.eq_nil_of_length_eq_zero this.symm] at hb
      cases hb
    | cons p r =>
      obtain ⟨k1, k2⟩ := sorted_head hs
      obtain ⟨i, hi, rfl⟩ := List.mem_map.mp k1
      obtain ⟨i1, i2⟩ := places_mem.mp hi
      have a := h3 i i1 i2
      have c := k2 _ hb
      unfold lePr at c
      simp at c
      show some i = some b
      congr 1
      omega
theorem best_run (L : List (Nat × Bool)) (z : Nat) (hl : L.length ≤ 1000) : K38.m_best_room [rmD L, .int (z : Int)] = some (0, od' (bestO L z)) := by
  refine def_of0 rfl (od'_box _) fun Q hQ => ?_
  unfold K38.b_best_room
  have h1 : L.length ≤ 1000000 := by omega
  simp [enum_rm]
  refine wp_idx L.length (fun m ρ => ∃ o, Bst L z m o ∧ ∃ x y w, ρ = [some (0, rmD L), some (0, .int (z : Int)), some (0, od' o), x, y, w]) rfl ⟨none, fun j hj => by omega, _, _, _, rfl⟩ ?_ ?_
  · rintro m ρ hm ⟨o, hb, x, y, w, rfl⟩
    rw [bindP_tp]
    unfold rm
    have keep : okAt L z m = false → Bst L z (m + 1) o := fun ho => by
      cases o with
      | none => exact step hb ho
      | some b =>
        obtain ⟨h1, h2, h3⟩ := hb
        refine ⟨by omega, h2, fun j hj hjo => ?_⟩
        by_cases e : j = m
        · rw [e, ho] at hjo; cases hjo
        · exact h3 j (by omega) hjo
    cases hf : (rAt L m).2 with
    | false =>
      have ho : okAt L z m = false := by unfold okAt; rw [hf]; rfl
      simp [hf]
      exact ⟨o, keep ho, rfl⟩
    | true =>
      by_cases hs : z ≤ (rAt L m).1
      · have ho : okAt L z m = true := by unfold okAt; rw [hf, decide_eq_true hs]; rfl
        cases o with
        | none =>
          simp [hf, hs, od']
          refine ⟨some m, ⟨by omega, ho, fun j hj hjo => ?_⟩, rfl⟩
          by_cases e : j = m
          · subst e; omega
          · rw [hb j (by omega)] at hjo; cases hjo
        | some b =>
          obtain ⟨h1, h2, h3⟩ := hb
          have hbl : b < L.length := by omega
          have hg := rAt_get hbl
          by_cases hlt : (rAt L m).1 < (rAt L b).1
          · simp [hf, hs, od', hg, hlt]
            refine ⟨some m, ⟨by omega, ho, fun j hj hjo => ?_⟩, rfl⟩
            by_cases e : j = m
            · subst e; omega
            · have := h3 j (by omega) hjo
              unfold sz at *
              omega
          · simp [hf, hs, od', hg, hlt]
            refine ⟨some b, ⟨by omega, h2, fun j hj hjo => ?_⟩, rfl⟩
            by_cases e : j = m
            · subst e; unfold sz; omega
            · exact h3 j (by omega) hjo
      · have ho : okAt L z m = false := by unfold okAt; rw [hf, decide_eq_false hs]; rfl
        simp [hf, hs]
        exact ⟨o, keep ho, rfl⟩
  · rintro ρ ⟨o, hb, x, y, w, rfl⟩
    simp
    have := hQ [some (0, rmD L), some (0, D.int ↑z), some (0, od' o), x, y, w]
    rw [bst_eq hb] at this
    exact this
/-! taken -/
def tak (L : List (Nat × Bool)) (p z : Nat) : List (Nat × Bool) := L.take p ++ (if sz L p = z then [(z, false)] else [(z, false), (sz L p - z, true)]) ++ L.drop (p + 1)
theorem tak_len {L : List (Nat × Bool)} {p z : Nat} (hp : p < L.length) : (tak L p z).length ≤ L.length + 1 := by
  unfold tak
  split <;> simp <;> omega
theorem taken_run (L : List (Nat × Bool)) (p z : Nat) (hp : p < L.length) (hz : z ≤ sz L p) (hl : L.length ≤ 1000) : K38.m_room_taken [rmD L, .int (p : Int), .int (z : Int)] = some (0, rmD (tak L p z)) := by
  refine def_of0 rfl (rm_nob _) fun Q hQ => ?_
  unfold K38.b_room_taken
  have hq := hQ
  unfold tak rmD at hq
  have hg := rAt_get hp
  have hp1 : (p : Int) + 1 = ((p + 1 : Nat) : Int) := by omega
  have hg' : L[p] = rAt L p := by rw [List.getElem?_eq_getElem hp] at hg; exact Option.some.inj hg
  have b1 : min p L.length + 1 ≤ 1000000 := by omega
  have b2 : min p L.length + 1 + (L.length - (p + 1)) ≤ 1000000 := by omega
  have b3 : min p L.length + 2 ≤ 1000000 := by omega
  have b4 : min p L.length + 2 + (L.length - (p + 1)) ≤ 1000000 := by omega
  unfold sz at *
  by_cases e : (rAt L p).1 = z
  · have e' : ((rAt L p).1 : Int) - (z : Int) = 0 := by omega
    simp [e, rm] at hq
    simp -implicitDefEqProofs [hg, hg', e', hp1, -Int.natCast_add, b1, b2, b3, b4]
    exact hq _
  · have e0 : ¬ ((rAt L p).1 : Int) - (z : Int) = 0 := by omega
    have e' : ((rAt L p).1 : Int) - (z : Int) = (((rAt L p).1 - z : Nat) : Int) := by omega
    rw [e'] at e0
    have en : ¬ (rAt L p).1 - z = 0 := by omega
    simp [e, rm] at hq
    simp -implicitDefEqProofs [hg, hg', e', e0, en, hp1, -Int.natCast_add, b1, b2, b3, b4]
    exact hq _
end HP
set_option Elab.async false
set_option linter.all false
set_option maxRecDepth 100000
/-! B1: rows of rooms, plain -/
namespace HP
open PySem L2 Pv
abbrev Rw := List (Nat × Bool)
def tot (L : Rw) : Nat := (L.map Prod.fst).sum
def Pos (L : Rw) : Prop := ∀ p ∈ L, 0 < p.1
/-- the taken rooms: where they begin, how long they are -/
def tk : Nat → Rw → List (Nat × Nat)
  | _, [] => []
  | o, (s, f) :: r => if f = true then tk (o + s) r else (o, s) :: tk (o + s) r
@[simp] theorem tot_nil : tot [] = 0 := rfl
@[simp] theorem tot_cons {p : Nat × Bool} {L : Rw} : tot (p :: L) = p.1 + tot L := by unfold tot; simp
@[simp] theorem tot_append {A B : Rw} : tot (A ++ B) = tot A + tot B := by unfold tot; simp
theorem tk_append : ∀ (A B : Rw) (o : Nat), tk o (A ++ B) = tk o A ++ tk (o + tot A) B
  | [], B, o => by simp [tk]
  | (s, f) :: A, B, o => by
    rw [List.cons_append, tk, tk, tk_append A B, tot_cons]
    have : o + s + tot A = o + (s + tot A) := by omega
    rw [this]
    cases f <;> simp
theorem tk_lo : ∀ {L : Rw} {o b s : Nat}, (b, s) ∈ tk o L → o ≤ b
  | [], o, b, s, h => by cases h
  | (t, f) :: L, o, b, s, h => by
    unfold tk at h
    split at h
    · have := tk_lo h; omega
    · rcases List.mem_cons.mp h with e | h
      · cases e; exact Nat.le_refl _
      · have := tk_lo h; omega
theorem tk_hi : ∀ {L : Rw} {o b s : Nat}, Pos L → (b, s) ∈ tk o L → b < o + tot L
  | [], o, b, s, _, h => by cases h
  | (t, f) :: L, o, b, s, P, h => by
    have hp := P _ List.mem_cons_self
    have P' : Pos L := fun p hp => P p (List.mem_cons_of_mem _ hp)
    simp only at hp
    rw [tot_cons]
    simp only
    unfold tk at h
    split at h
    · have := tk_hi P' h; omega
    · rcases List.mem_cons.mp h with e | h
      · cases e; omega
      · have := tk_hi P' h; omega
/-- where a taken room stands -/
theorem tk_at : ∀ {L : Rw} {o b s : Nat}, (b, s) ∈ tk o L → ∃ p, L[p]? = some (s, false) ∧ o + tot (L.take p) = b
  | [], o, b, s, h => by cases h
  | (t, f) :: L, o, b, s, h => by
    unfold tk at h
    split at h
    · obtain ⟨p, h1, h2⟩ := tk_at h
      exact ⟨p + 1, by simpa using h1, by rw [List.take_succ_cons, tot_cons]; omega⟩
    · rename_i hf
      rcases List.mem_cons.mp h with e | h
      · cases e
        exact ⟨0, by simp at hf; simp [hf], by simp⟩
      · obtain ⟨p, h1, h2⟩ := tk_at h
        exact ⟨p + 1, by simpa using h1, by rw [List.take_succ_cons, tot_cons]; omega⟩
theorem tk_of : ∀ {L : Rw} {o p s : Nat}, L[p]? = some (s, false) → (o + tot (L.take p), s) ∈ tk o L
  | [], o, p, s, h => by simp at h
  | (t, f) :: L, o, 0, s, h => by
    simp at h
    obtain ⟨rfl, rfl⟩ := h
    unfold tk; simp
  | (t, f) :: L, o, p + 1, s, h => by
    have := tk_of (o := o + t) (p := p) (s := s) (L := L) (by simpa using h)
    rw [List.take_succ_cons, tot_cons, ← Nat.add_assoc]
    unfold tk
    split
    · exact this
    · exact List.mem_cons_of_mem _ this
theorem tot_take_lt {L : Rw} (P : Pos L) {p q : Nat} (h : p < q) (hq : q ≤ L.length) : tot (L.take p) < tot (L.take q) := by
  obtain ⟨d, rfl⟩ : ∃ d, q = p + (d + 1) := ⟨q - p - 1, by omega⟩
  have hp : p < L.length := by omega
  rw [List.take_add, tot_append, List.drop_eq_getElem_cons hp, List.take_succ_cons, tot_cons]
  have := P _ (List.getElem_mem hp)
  omega
theorem tot_take_le (L : Rw) {p q : Nat} (h : p ≤ q) : tot (L.take p) ≤ tot (L.take q) := by
  obtain ⟨d, rfl⟩ : ∃ d, q = p + d := ⟨q - p, by omega⟩
  rw [List.take_add, tot_append]; omega
theorem len_le_tot : ∀ {L : Rw}, Pos L → L.length ≤ tot L
  | [], _ => Nat.zero_le _
  | p :: L, P => by
    have h1 := P p List.mem_cons_self
    have h2 := len_le_tot fun q hq => P q (List.mem_cons_of_mem _ hq)
    rw [List.length_cons, tot_cons]; omega
/-- no two free rooms side by side -/
def na : Rw → Bool
  | [] => true
  | [_] => true
  | a :: b :: r => !(a.2 && b.2) && na (b :: r)
def hf : Rw → Bool
  | [] => false
  | a :: _ => a.2
def lf : Rw → Bool
  | [] => false
  | [a] => a.2
  | _ :: b :: r => lf (b :: r)
theorem na_cons (a : Nat × Bool) (B : Rw) : na (a :: B) = (!(a.2 && hf B) && na B) := by
  cases B with
  | nil => simp [na, hf]
  | cons b r => rfl
theorem na_append : ∀ (A B : Rw), na (A ++ B) = (na A && na B && !(lf A && hf B))
  | [], B => by simp [na, lf]
  | [a], B => by
    show na (a :: B) = _
    rw [na_cons]
    simp only [na, lf]
    cases a.2 <;> cases hf B <;> cases na B <;> rfl
  | a :: b :: r, B => by
    have ih := na_append (b :: r) B
    show (!(a.2 && b.2) && na (b :: (r ++ B))) = ((!(a.2 && b.2) && na (b :: r)) && na B && !(lf (b :: r) && hf B))
    rw [show b :: (r ++ B) = (b :: r) ++ B from rfl, ih]
    cases !(a.2 && b.2) <;> simp
theorem lf_append (A : Rw) (a : Nat × Bool) : lf (A ++ [a]) = a.2 := by
  induction A with
  | nil => rfl
  | cons x A ih =>
    cases A with
    | nil => rfl
    | cons y A => exact ih
theorem hf_drop (L : Rw) (i : Nat) : hf (L.drop i) = frAt L i := by
  unfold frAt
  cases h : L[i]? with
  | none => rw [List.drop_eq_nil_of_le (by simpa using h)]; rfl
  | some p =>
    obtain ⟨hi, e⟩ := List.getElem?_eq_some_iff.mp h
    rw [List.drop_eq_getElem_cons hi, e]; rfl
theorem lf_take (L : Rw) (i : Nat) (h : i < L.length) : lf (L.take (i + 1)) = frAt L i := by
  rw [List.take_succ, List.getElem?_eq_getElem h]
  show lf (L.take i ++ [L[i]]) = _
  rw [lf_append]
  unfold frAt
  rw [List.getElem?_eq_getElem h]
end HP
set_option Elab.async false
set_option linter.all false
set_option maxRecDepth 100000
/-! B2: taken and given rooms, plain -/
namespace HP
open PySem L2 Pv
variable {L : Rw} {p z s : Nat}
theorem rAt_eq (h : p < L.length) : L[p] = rAt L p := by
  have := rAt_get h
  rw [List.getElem?_eq_getElem h] at this
  exact Option.some.inj this
theorem split_at (h : p < L.length) : L = L.take p ++ rAt L p :: L.drop (p + 1) := by
  rw [← rAt_eq h, ← List.drop_eq_getElem_cons h, List.take_append_drop]
theorem Pos.take (P : Pos L) (n : Nat) : Pos (L.take n) := fun q hq => P q (List.mem_of_mem_take hq)
theorem Pos.drop (P : Pos L) (n : Nat) : Pos (L.drop n) := fun q hq => P q (List.mem_of_mem_drop hq)
/-! taken -/
theorem tak_eq (L : Rw) (p z : Nat) : tak L p z = L.take p ++ (z, false) :: ((if sz L p = z then [] else [(sz L p - z, true)]) ++ L.drop (p + 1)) := by
  unfold tak
  split <;> simp
theorem rest_tot (h : z ≤ sz L p) : z + tot (if sz L p = z then ([] : Rw) else [(sz L p - z, true)]) = sz L p := by
  split
  · rename_i e; simp [e]
  · simp; omega
theorem tot_split (h : p < L.length) : tot L = tot (L.take p) + sz L p + tot (L.drop (p + 1)) := by
  have := congrArg tot (split_at h)
  rw [tot_append, tot_cons] at this
  unfold sz; omega
theorem tak_tot (h : p < L.length) (hz : z ≤ sz L p) : tot (tak L p z) = tot L := by
  rw [tak_eq, tot_split h, tot_append, tot_cons, tot_append]
  have := rest_tot hz
  omega
theorem tak_tk (hz : z ≤ sz L p) : tk 0 (tak L p z) = tk 0 (L.take p) ++ (tot (L.take p), z) :: tk (tot (L.take p) + sz L p) (L.drop (p + 1)) := by
  rw [tak_eq, tk_append, tk, tk_append]
  simp only [Bool.false_eq_true, if_false, Nat.zero_add]
  have e : tk (tot (L.take p) + z) (if sz L p = z then ([] : Rw) else [(sz L p - z, true)]) = [] := by
    split <;> simp [tk]
  have := rest_tot hz
  rw [e, List.nil_append, Nat.add_assoc, this]
theorem free_tk (h : p < L.length) (hf : (rAt L p).2 = true) : tk 0 L = tk 0 (L.take p) ++ tk (tot (L.take p) + sz L p) (L.drop (p + 1)) := by
  conv => lhs; rw [split_at h]
  rw [tk_append]
  have e : rAt L p = (sz L p, true) := Prod.ext rfl hf
  rw [e, tk]
  simp
theorem tak_mem (h : p < L.length) (hf : (rAt L p).2 = true) (hz : z ≤ sz L p) (b s : Nat) : (b, s) ∈ tk 0 (tak L p z) ↔ (b, s) ∈ tk 0 L ∨ (b = tot (L.take p) ∧ s = z) := by
  rw [tak_tk hz, free_tk h hf]
  simp only [List.mem_append, List.mem_cons, Prod.mk.injEq]
  constructor
  · rintro (q | q | q)
    · exact .inl (.inl q)
    · exact .inr q
    · exact .inl (.inr q)
  · rintro ((q | q) | q)
    · exact .inl q
    · exact .inr (.inr q)
    · exact .inr (.inl q)
theorem free_fresh (P : Pos L) (h : p < L.length) (hf : (rAt L p).2 = true) {b s : Nat} (m : (b, s) ∈ tk 0 L) : b ≠ tot (L.take p) := by
  rw [free_tk h hf] at m
  have hp : 0 < sz L p := by
    have := P _ (List.getElem_mem h)
    rw [rAt_eq h] at this; exact this
  rcases List.mem_append.mp m with m | m
  · have := tk_hi (P.take p) m
    omega
  · have := tk_lo m
    omega
theorem tak_pos (P : Pos L) (h : p < L.length) (hz : z ≤ sz L p) (h0 : 0 < z) : Pos (tak L p z) := by
  rw [tak_eq]
  intro q hq
  rcases List.mem_append.mp hq with hq | hq
  · exact P.take p q hq
  · rcases List.mem_cons.mp hq with rfl | hq
    · exact h0
    · rcases List.mem_append.mp hq with hq | hq
      · split at hq
        · cases hq
        · rw [List.mem_singleton.mp hq]; show 0 < sz L p - z; omega
      · exact P.drop _ q hq
theorem tak_na (h : p < L.length) (hf : (rAt L p).2 = true) (n : na L = true) : na (tak L p z) = true := by
  rw [split_at h, na_append, na_cons, hf] at n
  rw [tak_eq, na_append, na_cons, na_append]
  simp only [Bool.and_eq_true, Bool.not_eq_true', Bool.true_and, Bool.and_true] at n
  obtain ⟨⟨n1, n2, n3⟩, n4⟩ := n
  have h1 : lf (L.take p) = false := by simpa [HP.hf, hf] using n4
  rw [n1, n3]
  have hc : ∀ (a : Nat × Bool) (B : Rw), HP.hf (a :: B) = a.2 := fun _ _ => rfl
  simp only [Bool.false_and, Bool.not_false, Bool.true_and, Bool.and_true, hc, Bool.and_false]
  split
  · simp [na, lf]
  · simp [na, lf, n2]
/-! given -/
theorem giv_parts (hs : L[p]? = some (s, false)) : ∃ A X Y B, L = A ++ (X ++ (s, false) :: (Y ++ B)) ∧ (∀ q ∈ X, q.2 = true) ∧ (∀ q ∈ Y, q.2 = true) ∧ giv L p = A ++ (tot X + s + tot Y, true) :: B ∧ tot (L.take p) = tot A + tot X ∧
    (na L = true → lf A = false ∧ hf B = false) := by
  obtain ⟨hp, es⟩ := List.getElem?_eq_some_iff.mp hs
  have hlo : loG L p ≤ p := by unfold loG; split <;> omega
  have hhi : p + 1 ≤ hiG L p := by unfold hiG; split <;> omega
  have e1 : L.take p = L.take (loG L p) ++ (L.take p).drop (loG L p) := by
    conv => lhs; rw [← List.take_append_drop (loG L p) (L.take p)]
    rw [List.take_take, Nat.min_eq_left hlo]
  have e2 : L.drop (p + 1) = (L.drop (p + 1)).take (hiG L p - (p + 1)) ++ L.drop (hiG L p) := by
    conv => lhs; rw [← List.take_append_drop (hiG L p - (p + 1)) (L.drop (p + 1))]
    rw [List.drop_drop]
    congr 2; omega
  have eL : L = L.take (loG L p) ++ ((L.take p).drop (loG L p) ++ (s, false) :: ((L.drop (p + 1)).take (hiG L p - (p + 1)) ++ L.drop (hiG L p))) := by
    rw [← e2, ← es, ← List.append_assoc, ← e1, ← List.drop_eq_getElem_cons hp, List.take_append_drop]
  have et : tot ((L.take (hiG L p)).drop (loG L p)) = tot ((L.take p).drop (loG L p)) + s + tot ((L.drop (p + 1)).take (hiG L p - (p + 1))) := by
    have t1 := congrArg tot (List.take_append_drop (hiG L p) L)
    have t2 := congrArg tot (List.take_append_drop (loG L p) (L.take (hiG L p)))
    have t3 := congrArg tot eL
    rw [List.take_take, Nat.min_eq_left (by omega)] at t2
    simp only [tot_append, tot_cons] at t1 t2 t3
    omega
  refine ⟨L.take (loG L p), (L.take p).drop (loG L p), (L.drop (p + 1)).take (hiG L p - (p + 1)), L.drop (hiG L p), eL, ?_, ?_, ?_, ?_, ?_⟩
  · intro q hq
    unfold loG at hq
    split at hq
    · rename_i hc
      obtain ⟨j, hj, rfl⟩ := List.mem_iff_getElem.mp hq
      simp at hj
      have hj0 : j = 0 := by omega
      subst hj0
      simp
      have := hc.2
      unfold frAt at this
      rw [List.getElem?_eq_getElem (by omega)] at this
      exact this
    · rw [List.drop_eq_nil_of_le (by simp; omega)] at hq; cases hq
  · intro q hq
    unfold hiG at hq
    split at hq
    · rename_i hc
      obtain ⟨j, hj, rfl⟩ := List.mem_iff_getElem.mp hq
      simp at hj
      have hj0 : j = 0 := by omega
      subst hj0
      simp
      have := hc.2
      unfold frAt at this
      rw [List.getElem?_eq_getElem hc.1] at this
      exact this
    · rw [Nat.sub_self, List.take_zero] at hq; cases hq
  · unfold giv
    rw [List.append_assoc]
    show L.take (loG L p) ++ (tot ((L.take (hiG L p)).drop (loG L p)), true) :: L.drop (hiG L p) = _
    rw [et]
  · conv => lhs; rw [e1]
    rw [tot_append]
  · intro n
    constructor
    · by_cases hc : 0 < p ∧ frAt L (p - 1) = true
      · have e : loG L p = p - 1 := by unfold loG; rw [if_pos hc]
        rw [e]
        have := n
        rw [← List.take_append_drop (p - 1) L, na_append, hf_drop, hc.2] at this
        simp at this
        exact this.2
      · have e : loG L p = p := by unfold loG; rw [if_neg hc]
        rw [e]
        by_cases h0 : p = 0
        · subst h0; rfl
        · obtain ⟨m, rfl⟩ : ∃ m, p = m + 1 := ⟨p - 1, by omega⟩
          rw [lf_take L m (by omega)]
          simpa using hc
    · rw [hf_drop]
      by_cases hc : p + 1 < L.length ∧ frAt L (p + 1) = true
      · have e : hiG L p = p + 2 := by unfold hiG; rw [if_pos hc]
        rw [e]
        have := n
        rw [← List.take_append_drop (p + 2) L, na_append, hf_drop, lf_take L (p + 1) hc.1, hc.2] at this
        simp at this
        exact this.2
      · have e : hiG L p = p + 1 := by unfold hiG; rw [if_neg hc]
        rw [e]
        by_cases h1 : p + 1 < L.length
        · simpa [h1] using hc
        · unfold frAt
          rw [List.getElem?_eq_none (by omega)]
theorem tk_free : ∀ {X : Rw} {o : Nat}, (∀ q ∈ X, q.2 = true) → tk o X = []
  | [], _, _ => rfl
  | (t, f) :: X, o, h => by
    have hf : f = true := h _ List.mem_cons_self
    subst hf
    unfold tk
    rw [if_pos rfl]
    exact tk_free fun q hq => h q (List.mem_cons_of_mem _ hq)
theorem giv_mem (P : Pos L) (hs : L[p]? = some (s, false)) (b t : Nat) : (b, t) ∈ tk 0 (giv L p) ↔ (b, t) ∈ tk 0 L ∧ b ≠ tot (L.take p) := by
  obtain ⟨A, X, Y, B, e1, h1, h2, e2, e3, _⟩ := giv_parts hs
  have hs0 : 0 < s := P _ (List.mem_of_getElem? hs)
  have PA : Pos A := fun q hq => P q (by rw [e1]; exact List.mem_append_left _ hq)
  rw [e2, e3]
  have t1 : tk 0 L = tk 0 A ++ (tot A + tot X, s) :: tk (tot A + tot X + s + tot Y) B := by
    conv => lhs; rw [e1]
    rw [tk_append, tk_append, tk_free h1, tk, tk_append, tk_free h2]
    simp
  have t2 : tk 0 (A ++ (tot X + s + tot Y, true) :: B) = tk 0 A ++ tk (tot A + tot X + s + tot Y) B := by
    rw [tk_append, tk]
    simp [Nat.add_assoc]
  rw [t1, t2]
  simp only [List.mem_append, List.mem_cons, Prod.mk.injEq]
  constructor
  · rintro (q | q)
    · have := tk_hi PA q
      exact ⟨.inl q, by omega⟩
    · have := tk_lo q
      exact ⟨.inr (.inr q), by omega⟩
  · rintro ⟨q | q | q, hne⟩
    · exact .inl q
    · exact absurd q.1 hne
    · exact .inr q
theorem giv_tot (hs : L[p]? = some (s, false)) : tot (giv L p) = tot L := by
  obtain ⟨A, X, Y, B, e1, h1, h2, e2, e3, _⟩ := giv_parts hs
  have := congrArg tot e1
  rw [e2]
  simp only [tot_append, tot_cons] at this ⊢
  omega
theorem giv_pos (P : Pos L) (hs : L[p]? = some (s, false)) : Pos (giv L p) := by
  obtain ⟨A, X, Y, B, e1, h1, h2, e2, e3, _⟩ := giv_parts hs
  have hs0 : 0 < s := P _ (List.mem_of_getElem? hs)
  rw [e2]
  intro q hq
  rcases List.mem_append.mp hq with hq | hq
  · exact P q (by rw [e1]; exact List.mem_append_left _ hq)
  · rcases List.mem_cons.mp hq with rfl | hq
    · show 0 < tot X + s + tot Y; omega
    · exact P q (by rw [e1]; simp [hq])
theorem giv_na (n : na L = true) (hs : L[p]? = some (s, false)) : na (giv L p) = true := by
  obtain ⟨A, X, Y, B, e1, h1, h2, e2, e3, h3⟩ := giv_parts hs
  obtain ⟨f1, f2⟩ := h3 n
  rw [e2, na_append, na_cons, f1, f2]
  rw [e1, na_append] at n
  simp only [Bool.and_eq_true] at n
  have hB : na B = true := by
    have := n.1.2
    rw [na_append, na_cons, na_append] at this
    simp only [Bool.and_eq_true] at this
    exact this.1.2.2.1.2
  simp [n.1.1, hB]
end HP
set_option Elab.async false
set_option linter.all false
set_option maxRecDepth 100000
/-! B3: the run of takes and gives, plain -/
namespace HP
open PySem L2 Pv
structure Rs where
  L : Rw
  bs : List (Option Nat)
  hs : List (Option Nat)
/-- where a take goes; first: the first way -/
def fitP (first : Bool) (L : Rw) (z : Nat) : Option Nat := if first = true then (places L z).head? else bestO L z
def plc (L : Rw) (b : Nat) : Nat := ((List.range L.length).filter fun i => decide (tot (L.take i) < b)).length
def stp (first : Bool) (S : Rs) (d : Bool × Nat) : Rs :=
  if d.1 = true then match fitP first S.L d.2 with
    | none => ⟨S.L, S.bs ++ [none], S.hs ++ [none]⟩
    | some p => ⟨tak S.L p d.2, S.bs ++ [some (tot (S.L.take p))], S.hs ++ [some d.2]⟩
  else match (S.hs[d.2]?).join with
    | none => S
    | some _ => ⟨giv S.L (plc S.L (((S.bs[d.2]?).join).getD 0)), S.bs, S.hs.set d.2 none⟩
def ini (whole : Nat) : Rs := ⟨[(whole, true)], [], []⟩
def run (first : Bool) (whole : Nat) (ds : List (Bool × Nat)) : Rs := ds.foldl (stp first) (ini whole)
structure Rin (whole : Nat) (S : Rs) : Prop where
  len : S.bs.length = S.hs.length
  pos : Pos S.L
  htot : tot S.L = whole
  hna : na S.L = true
  held : ∀ n s : Nat, S.hs[n]? = some (some s) → ∃ b, S.bs[n]? = some (some b) ∧ (b, s) ∈ tk 0 S.L
  cov : ∀ b s : Nat, (b, s) ∈ tk 0 S.L → ∃ n : Nat, S.hs[n]? = some (some s) ∧ S.bs[n]? = some (some b)
  inj : ∀ n m s t b : Nat, S.hs[n]? = some (some s) → S.hs[m]? = some (some t) → S.bs[n]? = some (some b) → S.bs[m]? = some (some b) → n = m
theorem fit_mem {first : Bool} {L : Rw} {z p : Nat} (h : fitP first L z = some p) : p ∈ places L z := by
  unfold fitP at h
  split at h
  · exact List.mem_of_mem_head? (by rw [h]; exact rfl)
  · unfold bestO at h
    obtain ⟨q, hq, rfl⟩ := Option.map_eq_some_iff.mp h
    have : q ∈ bests L z := List.mem_mergeSort.mp (List.mem_of_mem_head? (by rw [hq]; exact rfl))
    unfold bests at this
    obtain ⟨i, hi, rfl⟩ := List.mem_map.mp this
    exact hi
theorem fit_ok {first : Bool} {L : Rw} {z p : Nat} (h : fitP first L z = some p) : p < L.length ∧ (rAt L p).2 = true ∧ z ≤ sz L p := by
  obtain ⟨h1, h2⟩ := places_mem.mp (fit_mem h)
  unfold okAt at h2
  simp at h2
  exact ⟨h1, h2.1, h2.2⟩
theorem range_lt (m d : Nat) : (List.range (m + d)).filter (fun i => decide (i < m)) = List.range m := by
  rw [List.range_add, List.filter_append]
  have h1 : (List.range m).filter (fun i => decide (i < m)) = List.range m := List.filter_eq_self.mpr fun i hi => by simpa using hi
  have h2 : ((List.range d).map fun x => m + x).filter (fun i => decide (i < m)) = [] := List.filter_eq_nil_iff.mpr fun i hi => by
    obtain ⟨j, _, rfl⟩ := List.mem_map.mp hi
    simp
  rw [h1, h2, List.append_nil]
theorem plc_eq {L : Rw} {p : Nat} (P : Pos L) (h : p ≤ L.length) : plc L (tot (L.take p)) = p := by
  unfold plc
  obtain ⟨d, hd⟩ : ∃ d, L.length = p + d := ⟨L.length - p, by omega⟩
  have : (List.range L.length).filter (fun i => decide (tot (L.take i) < tot (L.take p))) = (List.range L.length).filter fun i => decide (i < p) := by
    refine List.filter_congr fun i hi => ?_
    have hi' := List.mem_range.mp hi
    by_cases e : i < p
    · rw [decide_eq_true e, decide_eq_true (tot_take_lt P e h)]
    · rw [decide_eq_false e, decide_eq_false]
      have := tot_take_le L (show p ≤ i by omega)
      omega
  rw [this, hd, range_lt, List.length_range]
theorem get_snoc {α : Type} {xs : List α} {a b : α} {n : Nat} (h : (xs ++ [a])[n]? = some b) : xs[n]? = some b ∨ (n = xs.length ∧ b = a) := by
  by_cases e : n < xs.length
  · rw [List.getElem?_append_left e] at h; exact .inl h
  · rw [List.getElem?_append_right (by omega)] at h
    by_cases e2 : n = xs.length
    · subst e2; simp at h; exact .inr ⟨rfl, h.symm⟩
    · rw [List.getElem?_eq_none (by simp; omega)] at h; cases h
theorem get_keep {α : Type} {xs : List α} {a b : α} {n : Nat} (h : xs[n]? = some b) : (xs ++ [a])[n]? = some b := by
  rw [List.getElem?_append_left (List.getElem?_eq_some_iff.mp h).1]; exact h
theorem rin_none {whole : Nat} {S : Rs} (I : Rin whole S) : Rin whole ⟨S.L, S.bs ++ [none], S.hs ++ [none]⟩ := by
  refine ⟨by simp [I.len], I.pos, I.htot, I.hna, fun n s h => ?_, fun b s h => ?_, fun n m s t b h1 h2 h3 h4 => ?_⟩
  · rcases get_snoc h with h | ⟨_, e⟩
    · obtain ⟨b, h1, h2⟩ := I.held n s h
      exact ⟨b, get_keep h1, h2⟩
    · cases e
  · obtain ⟨n, h1, h2⟩ := I.cov b s h
    exact ⟨n, get_keep h1, get_keep h2⟩
  · rcases get_snoc h1 with h1 | ⟨_, e⟩
    · rcases get_snoc h2 with h2 | ⟨_, e⟩
      · rcases get_snoc h3 with h3 | ⟨_, e⟩
        · rcases get_snoc h4 with h4 | ⟨_, e⟩
          · exact I.inj n m s t b h1 h2 h3 h4
          · cases e
        · cases e
      · cases e
    · cases e
theorem rin_take {whole : Nat} {S : Rs} (I : Rin whole S) {p z : Nat} (hp : p < S.L.length) (hf : (rAt S.L p).2 = true) (hz : z ≤ sz S.L p) (h0 : 0 < z) :
    Rin whole ⟨tak S.L p z, S.bs ++ [some (tot (S.L.take p))], S.hs ++ [some z]⟩ := by
  have mem := tak_mem hp hf hz
  have fresh : ∀ {n b s}, S.hs[n]? = some (some s) → S.bs[n]? = some (some b) → b ≠ tot (S.L.take p) := fun {n b s} h1 h2 => by
    obtain ⟨b', h3, h4⟩ := I.held n s h1
    rw [h2] at h3
    cases h3
    exact free_fresh I.pos hp hf h4
  refine ⟨by simp [I.len], tak_pos I.pos hp hz h0, by rw [tak_tot hp hz]; exact I.htot, tak_na hp hf I.hna, fun n s h => ?_, fun b s h => ?_, fun n m s t b h1 h2 h3 h4 => ?_⟩
  · rcases get_snoc h with h | ⟨e1, e2⟩
    · obtain ⟨b, h1, h2⟩ := I.held n s h
      exact ⟨b, get_keep h1, (mem b s).mpr (.inl h2)⟩
    · cases e2
      refine ⟨tot (S.L.take p), ?_, (mem _ _).mpr (.inr ⟨rfl, rfl⟩)⟩
      show (S.bs ++ [some (tot (S.L.take p))])[n]? = _
      rw [e1, ← I.len]; simp
  · rcases (mem b s).mp h with h | ⟨rfl, rfl⟩
    · obtain ⟨n, h1, h2⟩ := I.cov b s h
      exact ⟨n, get_keep h1, get_keep h2⟩
    · refine ⟨S.hs.length, by simp, ?_⟩
      show (S.bs ++ [some (tot (S.L.take p))])[S.hs.length]? = _
      rw [← I.len]; simp
  · rcases get_snoc h1 with h1 | ⟨e1, _⟩
    · rcases get_snoc h2 with h2 | ⟨e2, _⟩
      · rcases get_snoc h3 with h3 | ⟨e3, _⟩
        · rcases get_snoc h4 with h4 | ⟨e4, _⟩
          · exact I.inj n m s t b h1 h2 h3 h4
          · have := (List.getElem?_eq_some_iff.mp h2).1
            have := I.len; omega
        · have := (List.getElem?_eq_some_iff.mp h1).1
          have := I.len; omega
      · rcases get_snoc h4 with h4 | ⟨_, e4⟩
        · have := (List.getElem?_eq_some_iff.mp h4).1
          have := I.len; omega
        · rcases get_snoc h3 with h3 | ⟨e3, _⟩
          · cases e4
            exact absurd rfl (fresh h1 h3)
          · have := (List.getElem?_eq_some_iff.mp h1).1
            have := I.len; omega
    · rcases get_snoc h2 with h2 | ⟨e2, _⟩
      · rcases get_snoc h3 with h3 | ⟨_, e3⟩
        · have := (List.getElem?_eq_some_iff.mp h3).1
          have := I.len; omega
        · rcases get_snoc h4 with h4 | ⟨e4, _⟩
          · cases e3
            exact absurd rfl (fresh h2 h4)
          · have := (List.getElem?_eq_some_iff.mp h2).1
            have := I.len; omega
      · rw [e1, e2]
/-- what a held number tells -/
theorem rin_at {whole : Nat} {S : Rs} (I : Rin whole S) {n s : Nat} (h : S.hs[n]? = some (some s)) : ∃ p, S.L[p]? = some (s, false) ∧ S.bs[n]? = some (some (tot (S.L.take p))) ∧ plc S.L (((S.bs[n]?).join).getD 0) = p := by
  obtain ⟨b, h1, h2⟩ := I.held n s h
  obtain ⟨p, h3, h4⟩ := tk_at h2
  rw [Nat.zero_add] at h4
  subst h4
  refine ⟨p, h3, h1, ?_⟩
  rw [h1]
  exact plc_eq I.pos (Nat.le_of_lt (List.getElem?_eq_some_iff.mp h3).1)
theorem rin_give {whole : Nat} {S : Rs} (I : Rin whole S) {n s p : Nat} (h : S.hs[n]? = some (some s)) (hp : S.L[p]? = some (s, false)) (hb : S.bs[n]? = some (some (tot (S.L.take p)))) : Rin whole ⟨giv S.L p, S.bs, S.hs.set n none⟩ := by
  have mem := giv_mem I.pos hp
  have hn := (List.getElem?_eq_some_iff.mp h).1
  have get : ∀ {m t}, (S.hs.set n none)[m]? = some (some t) → m ≠ n ∧ S.hs[m]? = some (some t) := fun {m t} q => by
    by_cases e : n = m
    · subst e; rw [List.getElem?_set_self hn] at q; cases q
    · rw [List.getElem?_set_ne e] at q; exact ⟨Ne.symm e, q⟩
  refine ⟨by simp [I.len], giv_pos I.pos hp, by rw [giv_tot hp]; exact I.htot, giv_na I.hna hp, fun m t q => ?_, fun b t q => ?_, fun m l t u b h1 h2 h3 h4 => ?_⟩
  · obtain ⟨hne, q⟩ := get q
    obtain ⟨b, h1, h2⟩ := I.held m t q
    refine ⟨b, h1, (mem b t).mpr ⟨h2, fun e => ?_⟩⟩
    subst e
    exact hne (I.inj m n t s _ q h h1 hb)
  · obtain ⟨q1, q2⟩ := (mem b t).mp q
    obtain ⟨m, h1, h2⟩ := I.cov b t q1
    refine ⟨m, ?_, h2⟩
    have hne : n ≠ m := fun e => by
      subst e
      rw [hb] at h2
      cases h2
      exact q2 rfl
    show (S.hs.set n none)[m]? = _
    rw [List.getElem?_set_ne hne]; exact h1
  · exact I.inj m l t u b (get h1).2 (get h2).2 h3 h4
theorem rin_step {first : Bool} {whole : Nat} {S : Rs} (I : Rin whole S) {d : Bool × Nat} (hd : d.1 = true → 0 < d.2) : Rin whole (stp first S d) := by
  unfold stp
  split
  · rename_i h1
    cases hf : fitP first S.L d.2 with
    | none => exact rin_none I
    | some p =>
      obtain ⟨q1, q2, q3⟩ := fit_ok hf
      exact rin_take I q1 q2 q3 (hd h1)
  · cases hh : (S.hs[d.2]?).join with
    | none => exact I
    | some s =>
      have h := join_some hh
      obtain ⟨p, h1, h2, h3⟩ := rin_at I h
      show Rin whole ⟨giv S.L (plc S.L (((S.bs[d.2]?).join).getD 0)), S.bs, S.hs.set d.2 none⟩
      rw [h3]
      exact rin_give I h h1 h2
theorem rin_ini {whole : Nat} (h : 0 < whole) : Rin whole (ini whole) := by
  refine ⟨rfl, fun q hq => ?_, by simp [ini], rfl, fun n s q => by simp [ini] at q, fun b s q => by simp [ini, tk] at q, fun n m s t b q => by simp [ini] at q⟩
  rw [show q = (whole, true) from by simpa [ini] using hq]; exact h
theorem rin_fold {first : Bool} {whole : Nat} : ∀ {ds : List (Bool × Nat)} {S : Rs}, Rin whole S → (∀ d ∈ ds, d.1 = true → 0 < d.2) → Rin whole (ds.foldl (stp first) S)
  | [], S, I, _ => I
  | d :: ds, S, I, h => by
    rw [List.foldl_cons]
    exact rin_fold (rin_step I (h d List.mem_cons_self)) fun e he => h e (List.mem_cons_of_mem _ he)
/-! all given back -/
theorem stp_give {first : Bool} {S : Rs} {n : Nat} : (stp first S (false, n)).bs = S.bs ∧ (stp first S (false, n)).hs = S.hs.set n none := by
  unfold stp
  simp only [Bool.false_eq_true, if_false]
  cases hh : (S.hs[n]?).join with
  | none =>
    refine ⟨rfl, ?_⟩
    show S.hs = _
    by_cases e : n < S.hs.length
    · rw [List.getElem?_eq_getElem e] at hh
      simp at hh
      refine List.ext_getElem? fun i => ?_
      by_cases ei : n = i
      · subst ei; rw [List.getElem?_set_self e, List.getElem?_eq_getElem e, hh]
      · rw [List.getElem?_set_ne ei]
    · rw [List.set_eq_of_length_le (by omega)]
  | some s => exact ⟨rfl, rfl⟩
theorem gives {first : Bool} : ∀ (n : Nat) {S : Rs}, n ≤ S.hs.length →
    (((List.range n).map fun k => (false, k)).foldl (stp first) S).bs = S.bs ∧ (((List.range n).map fun k => (false, k)).foldl (stp first) S).hs = List.replicate n none ++ S.hs.drop n
  | 0, S, _ => ⟨rfl, by simp⟩
  | n + 1, S, h => by
    obtain ⟨h1, h2⟩ := gives (first := first) n (S := S) (by omega)
    rw [List.range_succ, List.map_append, List.foldl_append]
    show (stp first _ (false, n)).bs = _ ∧ (stp first _ (false, n)).hs = _
    rw [stp_give.1, stp_give.2, h1, h2]
    refine ⟨rfl, ?_⟩
    have hn : n < S.hs.length := by omega
    rw [List.set_append_right _ _ (by simp), List.length_replicate, Nat.sub_self, List.drop_eq_getElem_cons hn, List.set_cons_zero, List.replicate_succ', List.append_assoc]; rfl
theorem all_free : ∀ {L : Rw} {o : Nat}, tk o L = [] → ∀ q ∈ L, q.2 = true
  | [], _, _, q, hq => by cases hq
  | (t, f) :: L, o, h, q, hq => by
    unfold tk at h
    split at h
    · rename_i hf
      rcases List.mem_cons.mp hq with rfl | hq
      · exact hf
      · exact all_free h q hq
    · cases h
theorem rin_end {whole : Nat} {S : Rs} (I : Rin whole S) (h0 : 0 < whole) (hn : ∀ n s : Nat, S.hs[n]? ≠ some (some s)) : S.L = [(whole, true)] := by
  have ht : tk 0 S.L = [] := by
    cases q : tk 0 S.L with
    | nil => rfl
    | cons a r =>
      obtain ⟨n, h1, _⟩ := I.cov a.1 a.2 (by rw [q]; exact List.mem_cons_self)
      exact absurd h1 (hn n a.2)
  have hf := all_free ht
  have n := I.hna
  have t := I.htot
  cases hL : S.L with
  | nil => rw [hL] at t; simp at t; omega
  | cons a r =>
    cases r with
    | nil =>
      rw [hL] at t hf
      simp at t
      have := hf a List.mem_cons_self
      rw [← t, ← this]
    | cons b r =>
      rw [hL] at n hf
      have ha := hf a List.mem_cons_self
      have hb := hf b (List.mem_cons_of_mem _ List.mem_cons_self)
      unfold na at n
      rw [ha, hb] at n
      simp at n
/-- then the whole fits at 0, and nothing behind it -/
theorem run_after {first : Bool} {whole : Nat} (h0 : 0 < whole) {ds : List (Bool × Nat)} (hd : ∀ d ∈ ds, d.1 = true → 0 < d.2) {n : Nat} (hn : (run first whole ds).hs.length = n) :
    (run first whole (ds ++ ((List.range n).map fun k => (false, k)) ++ [(true, whole), (true, 1)])).bs = (run first whole ds).bs ++ [some 0, none] := by
  unfold run at *
  rw [List.foldl_append, List.foldl_append]
  have I := rin_fold (first := first) (rin_ini h0) hd
  obtain ⟨g1, g2⟩ := gives (first := first) n (S := ds.foldl (stp first) (ini whole)) (by omega)
  have I2 := rin_fold (first := first) (ds := (List.range n).map fun k => (false, k)) I (fun d hd' h => by obtain ⟨k, _, rfl⟩ := List.mem_map.mp hd'; cases h)
  have eL := rin_end I2 h0 fun m s h => by
    rw [g2, List.drop_eq_nil_of_le (by omega), List.append_nil] at h
    rw [List.getElem?_replicate] at h
    split at h <;> cases h
  generalize ((List.range n).map fun k => (false, k)).foldl (stp first) (ds.foldl (stp first) (ini whole)) = T at *
  have f1 : fitP first T.L whole = some 0 := by
    rw [eL]
    have hp : places [(whole, true)] whole = [0] := by
      unfold places okAt rAt
      simp [List.range_succ]
    unfold fitP
    split
    · rw [hp]; rfl
    · unfold bestO bests
      rw [hp]; simp
  have s1 : stp first T (true, whole) = ⟨[(whole, false)], T.bs ++ [some 0], T.hs ++ [some whole]⟩ := by
    unfold stp
    simp only [if_true, f1]
    rw [eL]
    simp [tak, sz, rAt]
  have f2 : fitP first [(whole, false)] 1 = none := by
    have hp : places [(whole, false)] 1 = [] := by
      unfold places okAt rAt
      simp [List.range_succ]
    unfold fitP
    split
    · rw [hp]; rfl
    · unfold bestO bests
      rw [hp]; simp
  have s2 : (stp first ⟨[(whole, false)], T.bs ++ [some 0], T.hs ++ [some whole]⟩ (true, 1)).bs = T.bs ++ [some 0] ++ [none] := by
    unfold stp
    simp only [if_true, f2]
  show (stp first (stp first T (true, whole)) (true, 1)).bs = _
  rw [s1, s2, g1]; simp
theorem run_len {first : Bool} : ∀ (ds : List (Bool × Nat)) (S : Rs), (ds.foldl (stp first) S).hs.length = S.hs.length + (ds.filter fun d => d.1).length
  | [], S => by simp
  | (t, z) :: ds, S => by
    rw [List.foldl_cons, run_len ds]
    cases t with
    | false => rw [stp_give.2]; simp
    | true =>
      unfold stp
      simp only [if_true]
      cases fitP first S.L z <;> simp <;> omega
end HP
set_option Elab.async false
set_option linter.all false
set_option maxRecDepth 100000
/-! B4: where a take goes, where a room begins, what place it has: the runs -/
namespace HP
open PySem L2 Pv
def wy (first : Bool) : D := .str (if first = true then "first" else "best")
theorem places_nil {L : Rw} {z : Nat} {first : Bool} (h : places L z = []) : fitP first L z = none := by
  unfold fitP
  split
  · rw [h]; rfl
  · unfold bestO bests
    rw [h]; simp
theorem sorted_places (L : Rw) (z : Nat) : (places L z).Pairwise (· < ·) := by
  unfold places
  exact List.Pairwise.filter _ (List.pairwise_lt_range)
theorem fit_run (first : Bool) (L : Rw) (z : Nat) (hl : L.length ≤ 1000) : K38.m_law_fit [wy first, rmD L, .int (z : Int)] = some (0, od' (fitP first L z)) := by
  refine def_of0 rfl (od'_box _) fun Q hQ => ?_
  unfold K38.b_law_fit
  have b6 : L.length ≤ 1000000000 := by omega
  have b5 : L.length ≤ 1000000 := by omega
  have hpl : (places L z).length ≤ 1000 := by
    have := List.length_filter_le (fun i => okAt L z i) (List.range L.length)
    unfold places; simp at this; omega
  have b1 : (places L z).length ≤ 1000000 := by omega
  have e13 : ∀ v0 v3 v5 : Option W, compL (.nm 4) (bAnd (bVal (pOp2 gIx (pOp2 gIx (pBv 1) (pBv 4)) (pC (.int 1)))) (bVal (pOp2 (gCmpI fun i j => decide (j ≤ i)) (pOp2 gIx (pOp2 gIx (pBv 1) (pBv 4)) (pC (.int 0))) (pBv 2)))) (pTup (aCons (pOp2 gIx (pOp2 gIx (pBv 1) (pBv 4)) (pC (.int 0))) (aCons (pVar 4) aNil))) 0 [v0, some (0, rmD L), some (0, .int (z : Int)), v3, none, v5] ((List.range L.length).map IN) = some ((bests L z).map Pv.prD) := fun v0 v3 v5 => by
    unfold bests places
    rw [List.map_map]
    refine comp_fm (fun i => okAt L z i) (fun i => Pv.prD (sz L i, i)) fun i hi => ?_
    have hi' := List.mem_range.mp hi
    have hg := rAt_get hi'
    have hg' : L[i] = rAt L i := by rw [List.getElem?_eq_getElem hi'] at hg; exact Option.some.inj hg
    unfold okAt
    cases hf : (rAt L i).2 <;> by_cases hs : z ≤ (rAt L i).1 <;> simp [hi', hg', hf, hs, Pv.prD, sz]
  have e14 : ∀ v0 v1 v2 v3 : Option W, compL (.tp [.nm 5, .nm 4]) bYes (pVar 4) 0 [v0, v1, v2, v3, none, none] ((bests L z).map Pv.prD) = some ((places L z).map IN) := fun v0 v1 v2 v3 => by
    unfold bests
    rw [List.map_map]
    refine comp_map (fun i : Nat => IN i) fun i hi => ?_
    simp [Pv.prD]
  have hbl : (bests L z).length = (places L z).length := by unfold bests; simp
  cases hp : places L z with
  | nil =>
    have hb : bests L z = [] := by unfold bests; rw [hp]; rfl
    rw [hb] at e13
    have := hQ
    rw [places_nil hp] at this
    simp -implicitDefEqProofs [b5, b6, e13]
    exact this _
  | cons p r =>
    have hb : bests L z = (sz L p, p) :: r.map fun i => (sz L i, i) := by unfold bests; rw [hp]; rfl
    have hz : ¬ ((bests L z).length : Int) = 0 := by rw [hbl, hp]; simp; omega
    have hbl' : (bests L z).length ≤ 1000000 := by omega
    have hb0 : ¬ bests L z = [] := by rw [hb]; simp
    have fb : ¬ (Str.ofString "first" = Str.ofString "best") := by decide
    cases first with
    | false =>
      obtain ⟨q, q1, q2, q3⟩ := minP_run (k := 1) (p := (sz L p, p)) (r := r.map fun i => (sz L i, i)) (Nat.le_refl _)
      rw [← hb] at q1 q2 q3
      have hq : bestO L z = some q.2 := by
        obtain ⟨i, hi, rfl⟩ := List.mem_map.mp q1
        obtain ⟨i1, i2⟩ := places_mem.mp hi
        refine bst_eq ⟨i1, i2, fun j hj hjo => ?_⟩
        have := q2 (sz L j, j) (List.mem_map.mpr ⟨j, places_mem.mpr ⟨hj, hjo⟩, rfl⟩)
        unfold lePr at this
        simp at this
        show sz L i < sz L j ∨ sz L i = sz L j ∧ i ≤ j
        omega
      have := hQ
      unfold fitP at this
      rw [if_neg (by simp), hq] at this
      have q4 : ∀ k l, gIx (k, Pv.prD q) (l, .int 1) = some (0, .int (q.2 : Int)) := fun k l => by simp [Pv.prD]
      simp -implicitDefEqProofs [b5, b6, e13, hb0, wy, q3, q4, hbl']
      exact this _
    | true =>
      have hs := sorted_places L z
      rw [hp] at hs e14
      have hm := min_head (k := 1) (xs := r) (n := p) (Nat.le_refl _) fun x hx => Nat.le_of_lt ((List.pairwise_cons.mp hs).1 x hx)
      rw [List.map_cons, IN_d] at hm
      have := hQ
      unfold fitP at this
      rw [if_pos rfl, hp] at this
      simp -implicitDefEqProofs [b5, b6, e13, hb0, fb, wy, e14, hbl', hm]
      exact this _
/-! the place of a begin -/
theorem law_place_run (L : Rw) (P : Pos L) {p : Nat} (hp : p < L.length) : K38.m_law_place [rmD L, .int (tot (L.take p) : Int)] = some (0, .int (p : Int)) := by
  refine def_of0 rfl rfl fun Q hQ => ?_
  unfold K38.b_law_place
  simp
  refine wp_for (inj := rm) L (fun pre ρ => ∃ (x y : Option W), ρ = [some (0, rmD L), some (0, .int (tot (L.take p) : Int)), some (0, .int ((min pre.length p : Nat) : Int)), some (0, .int (tot pre : Int)), x, y]) rfl ⟨none, none, by simp⟩ ?_ ?_
  · rintro pre ⟨s1, f1⟩ post ρ hpre ⟨x, y, rfl⟩
    have hle : pre.length < L.length := by rw [hpre]; simp
    have et : pre = L.take pre.length := by rw [hpre]; simp
    have hc : ((tot pre : Int) < (tot (L.take p) : Int)) ↔ pre.length < p := by
      constructor
      · intro h
        apply Classical.byContradiction
        intro hn
        have := tot_take_le L (show p ≤ pre.length by omega)
        rw [← et] at this
        omega
      · intro h
        have := tot_take_lt P h (Nat.le_of_lt hp)
        rw [← et] at this
        omega
    have e1 : ((tot (pre ++ [(s1, f1)]) : Nat) : Int) = (tot pre : Int) + (s1 : Int) := by simp
    rw [e1]
    by_cases q : pre.length < p
    · have e2 : ((min (pre ++ [(s1, f1)]).length p : Nat) : Int) = ((min pre.length p : Nat) : Int) + 1 := by
        rw [List.length_append]; simp; omega
      rw [e2]
      unfold rm
      simp -implicitDefEqProofs [hc, q]
    · have e2 : ((min (pre ++ [(s1, f1)]).length p : Nat) : Int) = ((min pre.length p : Nat) : Int) := by
        rw [List.length_append]; simp; omega
      rw [e2]
      unfold rm
      simp -implicitDefEqProofs [hc, q]
  · rintro ρ ⟨x, y, rfl⟩
    have : min L.length p = p := by omega
    rw [this]
    simp
    exact hQ _
theorem place_of_run (L : Rw) (P : Pos L) {p s : Nat} (hp : L[p]? = some (s, false)) (hl : L.length ≤ 1000) : K38.m_place_of [rmD L, .int (tot (L.take p) : Int), .int (s : Int)] = some (0, .int (p : Int)) := by
  obtain ⟨hlt, he⟩ := List.getElem?_eq_some_iff.mp hp
  refine def_of0 rfl rfl fun Q hQ => ?_
  unfold K38.b_place_of
  have h1 : L.length ≤ 1000000 := by omega
  simp [enum_rm]
  refine wp_idx L.length (fun m ρ => m ≤ p ∧ ∃ x y z, ρ = [some (0, rmD L), some (0, .int (tot (L.take p) : Int)), some (0, .int (s : Int)), some (0, .int (tot (L.take m) : Int)), x, y, z]) rfl ⟨Nat.zero_le _, none, none, none, by simp⟩ ?_ ?_
  · rintro m ρ hm ⟨hmp, x, y, z, rfl⟩
    rw [bindP_tp]
    unfold rm
    by_cases e : m = p
    · subst e
      have e2 : rAt L m = (s, false) := by rw [← rAt_eq hlt, he]
      simp [e2]
      exact hQ _
    · have hne : ¬ ((tot (L.take m) : Int) = (tot (L.take p) : Int)) := by
        have := tot_take_lt P (show m < p by omega) (Nat.le_of_lt hlt)
        omega
      have e3 : (tot (L.take (m + 1)) : Int) = (tot (L.take m) : Int) + ((rAt L m).1 : Int) := by
        rw [List.take_succ, List.getElem?_eq_getElem hm, rAt_eq hm]
        simp
      rw [e3]
      simp -implicitDefEqProofs [hne]
      omega
  · rintro ρ ⟨hmp, _⟩
    omega
theorem begin_run (L : Rw) (p : Nat) (hl : L.length ≤ 1000) : K38.m_begin_of [rmD L, .int (p : Int)] = some (0, .int (tot (L.take p) : Int)) := by
  refine def_of0 rfl rfl fun Q hQ => ?_
  unfold K38.b_begin_of
  have ge : compL (.nm 2) bYes (pOp2 gIx (pBv 2) (pC (.int 0))) 0 [some (0, rmD L), some (0, .int (p : Int)), none] ((L.take p).map rm) = some ((L.take p).map fun p => .int (p.1 : Int)) := by
    refine comp_map (fun p : Nat × Bool => .int (p.1 : Int)) fun a ha => ?_
    simp
  have sm : gSum (1, .lst ((L.take p).map fun p => .int (p.1 : Int))) = some (0, .int (tot (L.take p) : Int)) := by
    rw [sum_ints, sum_cast Prod.fst]; rfl
  have h1 : min p L.length ≤ 1000000 := by omega
  simp only [List.map_take] at ge sm
  simp -implicitDefEqProofs [ge, sm, h1]
  exact hQ _
end HP
set_option Elab.async false
set_option linter.all false
set_option maxRecDepth 100000
/-! B5: the run of takes and gives, by the program -/
namespace HP
open PySem L2 Pv
def ddD (d : Bool × Nat) : D := .tup [.str (if d.1 = true then "take" else "give"), .int (d.2 : Int)]
theorem valD_putN (kvs : List (List Key × D)) (k k' : List Key) (d : D) (h : valD kvs k = none) : valD (putD kvs k d) k' = if k = k' then some d else valD kvs k' := by
  unfold putD
  rw [h]
  simp only [Option.isSome_none, Bool.false_eq_true, if_false]
  induction kvs with
  | nil => simp [valD]
  | cons p r ih =>
    unfold valD at h
    split at h
    · cases h
    · rename_i hp
      rw [List.cons_append]
      unfold valD
      by_cases e : p.1 = k'
      · rw [if_pos e, if_pos e, if_neg (fun z => hp (e.trans z.symm))]
      · rw [if_neg e, if_neg e]
        exact ih h
theorem putN_len (kvs : List (List Key × D)) (k : List Key) (d : D) : (putD kvs k d).length ≤ kvs.length + 1 := by
  unfold putD
  split <;> simp
theorem valD_drop (k k' : List Key) : ∀ kvs : List (List Key × D), valD (dropD kvs k) k' = if k' = k then none else valD kvs k'
  | [] => by simp [dropD, valD]
  | p :: r => by
    have ih := valD_drop k k' r
    unfold dropD at *
    by_cases e : p.1 = k
    · rw [List.filter_cons_of_neg (by simpa using e), ih]
      by_cases e2 : k' = k
      · rw [if_pos e2, if_pos e2]
      · rw [if_neg e2, if_neg e2]
        conv => rhs; unfold valD
        rw [if_neg (fun z => e2 (z.symm.trans e))]
    · rw [List.filter_cons_of_pos (by simpa using e)]
      unfold valD
      by_cases e2 : p.1 = k'
      · rw [if_pos e2, if_pos e2, if_neg (fun z => e (e2.trans z))]
      · rw [if_neg e2, if_neg e2]; exact ih
theorem run_snoc (first : Bool) (whole : Nat) (pre : List (Bool × Nat)) (d : Bool × Nat) : run first whole (pre ++ [d]) = stp first (run first whole pre) d := by
  unfold run
  rw [List.foldl_append]; rfl
theorem key_nat {a b : Nat} : ([Sum.inl (a : Int)] : List Key) = [Sum.inl (b : Int)] ↔ a = b := by
  constructor
  · intro h
    have h1 := (List.cons.inj h).1
    have h2 := Sum.inl.inj h1
    omega
  · intro h; rw [h]
theorem hs_len {first : Bool} {whole : Nat} (pre : List (Bool × Nat)) : (run first whole pre).hs.length ≤ pre.length := by
  have := run_len (first := first) pre (ini whole)
  have h2 := List.length_filter_le (fun d : Bool × Nat => d.1) pre
  have h3 : (ini whole).hs.length = 0 := rfl
  unfold run
  omega
theorem rooms_run_run (first : Bool) {whole : Nat} (h0 : 0 < whole) (hw : whole ≤ 1000) (ds : List (Bool × Nat)) (hd : ∀ d ∈ ds, d.1 = true → 0 < d.2) (hl : ds.length ≤ 1000) :
    K38.m_rooms_run [wy first, .int (whole : Int), .tup (ds.map ddD)] = some (0, .tup ((run first whole ds).bs.map od')) := by
  refine def_of0 rfl (noBoxs_all fun d hd => by obtain ⟨o, _, rfl⟩ := List.mem_map.mp hd; exact od'_box o) fun Q hQ => ?_
  unfold K38.b_rooms_run
  simp
  refine wp_for (inj := ddD) ds (fun pre ρ => ∃ kvs x y z, (∀ n : Nat, valD kvs [.inl (n : Int)] = (((run first whole pre).hs[n]?).join).map fun s : Nat => .int (s : Int)) ∧ kvs.length ≤ pre.length ∧
    ρ = [some (0, wy first), some (0, .int (whole : Int)), some (0, .tup (ds.map ddD)), some (0, rmD (run first whole pre).L), some (1, .lst ((run first whole pre).bs.map od')), some (1, .dct false kvs), x, y, z]) rfl ⟨[], none, none, none, fun n => by simp [run, ini, valD], by simp, by simp [run, ini, rmD, rm]⟩ ?_ ?_
  · rintro pre d post ρ hp ⟨kvs, x, y, z, hv, hk, rfl⟩
    have hpre : ∀ e ∈ pre, e.1 = true → 0 < e.2 := fun e he => hd e (by rw [hp]; exact List.mem_append_left _ he)
    have hpl : pre.length < 1000 := by
      have := congrArg List.length hp
      simp at this; omega
    have I : Rin whole (run first whole pre) := rin_fold (rin_ini h0) hpre
    have hhl := hs_len (first := first) (whole := whole) pre
    rw [run_snoc]
    generalize run first whole pre = S at *
    have hL : S.L.length ≤ 1000 := Nat.le_trans (len_le_tot I.pos) (by rw [I.htot]; exact hw)
    have hbl : S.bs.length ≤ 1000 := by have := I.len; omega
    have hbb : S.bs.length < 1000000 := by omega
    obtain ⟨t, n⟩ := d
    cases t with
    | true =>
      have hn : 0 < n := hd (true, n) (by rw [hp]; simp) rfl
      have r1 := first_run S.L n hL
      have r2 := best_run S.L n hL
      have es : stp first S (true, n) = match fitP first S.L n with
        | none => ⟨S.L, S.bs ++ [none], S.hs ++ [none]⟩
        | some p => ⟨tak S.L p n, S.bs ++ [some (tot (S.L.take p))], S.hs ++ [some n]⟩ := rfl
      rw [es]
      have fb : ¬ (Str.ofString "best" = Str.ofString "first") := by decide
      have r1' : K38.m_first_room [rmD S.L, .int (n : Int)] = some (0, od' (fitP true S.L n)) := r1
      have r2' : K38.m_best_room [rmD S.L, .int (n : Int)] = some (0, od' (fitP false S.L n)) := r2
      cases hf : fitP first S.L n with
      | none =>
        have key : ∀ m : Nat, valD kvs [.inl (m : Int)] = (((S.hs ++ [none])[m]?).join).map fun s : Nat => D.int (s : Int) := fun m => by
          rw [hv m]
          by_cases e : m < S.hs.length
          · rw [List.getElem?_append_left e]
          · rw [List.getElem?_eq_none (by omega)]
            by_cases e2 : m = S.hs.length
            · subst e2; simp
            · rw [List.getElem?_eq_none (by simp; omega)]
        cases first with
        | true =>
          rw [hf] at r1'
          simp -implicitDefEqProofs [ddD, wy, r1', od', hbb, Pv.big]
          exact ⟨key, by omega⟩
        | false =>
          rw [hf] at r2'
          simp -implicitDefEqProofs [ddD, wy, fb, r2', od', hbb, Pv.big]
          exact ⟨key, by omega⟩
      | some p =>
        obtain ⟨q1, q2, q3⟩ := fit_ok hf
        have tk := taken_run S.L p n q1 q3 hL
        have bg := begin_run S.L p hL
        have hkb : kvs.length < 1000000 := by omega
        have hfresh : valD kvs [.inl (S.bs.length : Int)] = none := by
          rw [hv, List.getElem?_eq_none (by have := I.len; omega)]; rfl
        have key : ∀ m : Nat, valD (putD kvs [.inl (S.bs.length : Int)] (.int (n : Int))) [.inl (m : Int)] = (((S.hs ++ [some n])[m]?).join).map fun s : Nat => D.int (s : Int) := fun m => by
          rw [valD_putN _ _ _ _ hfresh, hv m]
          by_cases e : S.bs.length = m
          · subst e
            rw [if_pos rfl, I.len]; simp
          · rw [if_neg (fun z => e (key_nat.mp z))]
            have e' : m ≠ S.hs.length := by rw [← I.len]; exact Ne.symm e
            by_cases e2 : m < S.hs.length
            · rw [List.getElem?_append_left e2]
            · rw [List.getElem?_eq_none (by omega), List.getElem?_eq_none (by simp; omega)]
        have kl := putN_len kvs [.inl (S.bs.length : Int)] (.int (n : Int))
        cases first with
        | true =>
          rw [hf] at r1'
          simp -implicitDefEqProofs [ddD, wy, r1', od', hbb, Pv.big, tk, bg, hkb]
          exact ⟨key, by omega⟩
        | false =>
          rw [hf] at r2'
          simp -implicitDefEqProofs [ddD, wy, fb, r2', od', hbb, Pv.big, tk, bg, hkb]
          exact ⟨key, by omega⟩
    | false =>
      have gt : ¬ (Str.ofString "give" = Str.ofString "take") := by decide
      have es : stp first S (false, n) = match (S.hs[n]?).join with
        | none => S
        | some _ => ⟨giv S.L (plc S.L (((S.bs[n]?).join).getD 0)), S.bs, S.hs.set n none⟩ := rfl
      rw [es]
      have hvn := hv n
      cases hh : (S.hs[n]?).join with
      | none =>
        rw [hh] at hvn
        simp only [Option.map_none] at hvn
        simp -implicitDefEqProofs [ddD, gt, hvn]
        exact ⟨hv, by omega⟩
      | some s =>
        rw [hh] at hvn
        simp only [Option.map_some] at hvn
        have h := join_some hh
        obtain ⟨p, p1, p2, p3⟩ := rin_at I h
        have hp' := (List.getElem?_eq_some_iff.mp p1).1
        have po := place_of_run S.L I.pos p1 hL
        have gv := room_given_run S.L p (Nat.le_of_lt hp') hL
        have hn := (List.getElem?_eq_some_iff.mp h).1
        have hnb := (List.getElem?_eq_some_iff.mp p2).1
        have hget : S.bs[n] = some (tot (S.L.take p)) := by
          rw [List.getElem?_eq_getElem hnb] at p2; exact Option.some.inj p2
        simp only [p3]
        simp -implicitDefEqProofs [ddD, gt, hvn, hget, hnb, od', po, gv]
        refine ⟨fun m => ?_, ?_⟩
        · rw [valD_drop, hv m]
          by_cases e : m = n
          · subst e
            rw [if_pos rfl, List.getElem?_set_self hn]; rfl
          · rw [if_neg (fun z => e (key_nat.mp z)), List.getElem?_set_ne (Ne.symm e)]
        · have : (dropD kvs [.inl (n : Int)]).length ≤ kvs.length := List.length_filter_le _ _
          omega
  · rintro ρ ⟨kvs, x, y, z, _, _, rfl⟩
    simp
    exact hQ _
end HP
set_option Elab.async false
set_option linter.all false
set_option maxRecDepth 100000
/-! B6: the run of takes and gives, by the law -/
namespace HP
open PySem L2 Pv
theorem likeOk_all {n : Nat} {ds : List D} (hl : ds.length ≤ 1000) (h : ∀ d ∈ ds, CL.likeOk n d = true) : CL.likeOk (n + 1) (.tup ds) = true := by
  show (decide (ds.length ≤ 1000) && ds.all (CL.likeOk n)) = true
  rw [decide_eq_true hl, List.all_eq_true.mpr h]; rfl
theorem like38 {x : D} (h : CL.likeOk 5 x = true) : K38.m_law_like [x, x] = some (0, .bl true) := CL.like x h
theorem like_rm (L : Rw) (hl : L.length ≤ 1000) : K38.m_law_like [rmD L, rmD L] = some (0, .bl true) := like38 (likeOk_all (by simpa using hl) fun d hd => by
  obtain ⟨p, _, rfl⟩ := List.mem_map.mp hd
  rfl)
theorem like_od (o : Option Nat) : K38.m_law_like [od' o, od' o] = some (0, .bl true) := like38 (by cases o <;> rfl)
theorem sum_ints' {α : Type} (F : α → Int) (xs : List α) {k : Nat} (hk : k ≤ 1) : gSum (k, .lst (xs.map fun a => D.int (F a))) = some (0, .int (xs.map F).sum) := by
  unfold gSum
  show (itemsD (k, .lst _)).bind _ = _
  have : itemsD (k, .lst (xs.map fun a => D.int (F a))) = some (xs.map fun a => D.int (F a)) := by unfold itemsD; simp [hk]
  rw [this, Option.bind_some, intsD_map]; rfl
theorem tak_ev1 {L : Rw} {p z : Nat} (e : sz L p = z) : D.tup (List.take p (List.map rm L) ++ .tup [.int (z : Int), .bl false] :: List.drop (p + 1) (List.map rm L)) = rmD (tak L p z) := by
  unfold tak
  rw [if_pos e]
  unfold rmD
  simp [rm]
theorem tak_ev2 {L : Rw} {p z : Nat} (e : ¬ sz L p = z) : D.tup (List.take p (List.map rm L) ++ .tup [.int (z : Int), .bl false] :: .tup [.int ((sz L p - z : Nat) : Int), .bl true] :: List.drop (p + 1) (List.map rm L)) = rmD (tak L p z) := by
  unfold tak
  rw [if_neg e]
  unfold rmD
  simp [rm]
theorem law_run_run (first : Bool) {whole : Nat} (h0 : 0 < whole) (hw : whole ≤ 900) (ds : List (Bool × Nat)) (hd : ∀ d ∈ ds, d.1 = true → 0 < d.2) (hl : ds.length ≤ 1000) :
    K38.m_law_run [wy first, .int (whole : Int), .tup (ds.map ddD)] = some (0, .tup ((run first whole ds).bs.map od')) := by
  refine def_of0 rfl (noBoxs_all fun d hd => by obtain ⟨o, _, rfl⟩ := List.mem_map.mp hd; exact od'_box o) fun Q hQ => ?_
  unfold K38.b_law_run
  simp
  refine wp_for (inj := ddD) ds (fun pre ρ => ∃ w6 w7 w8 w9 w10 w11, lvl0 (some w11) = true ∧
    ρ = [some (0, wy first), some (0, .int (whole : Int)), some (0, .tup (ds.map ddD)), some (0, rmD (run first whole pre).L), some (1, .lst ((run first whole pre).bs.map od')), some (1, .lst ((run first whole pre).hs.map fun o : Option Nat => D.bl o.isSome)), w6, w7, w8, w9, w10, w11, none, none]) rfl
    ⟨none, none, none, none, none, none, rfl, by simp [run, ini, rmD, rm]⟩ ?_ ?_
  · rintro pre d post ρ hp ⟨w6, w7, w8, w9, w10, w11, hw11, rfl⟩
    have hpre : ∀ e ∈ pre, e.1 = true → 0 < e.2 := fun e he => hd e (by rw [hp]; exact List.mem_append_left _ he)
    have hpl : pre.length < 1000 := by
      have := congrArg List.length hp
      simp at this; omega
    have I : Rin whole (run first whole pre) := rin_fold (rin_ini h0) hpre
    have I' : Rin whole (stp first (run first whole pre) d) := rin_step I (hd d (by rw [hp]; simp))
    have hhl := hs_len (first := first) (whole := whole) pre
    rw [run_snoc]
    generalize run first whole pre = S at *
    have len : ∀ {T : Rs}, Rin whole T → T.L.length ≤ 900 := fun {T} J => Nat.le_trans (len_le_tot J.pos) (by rw [J.htot]; exact hw)
    have hL : S.L.length ≤ 900 := len I
    have hbl : S.bs.length ≤ 1000 := by have := I.len; omega
    have hbb : S.bs.length < 1000000 := by omega
    have hhb : S.hs.length < 1000000 := by omega
    have e11 : ∀ (L : Rw) (v0 v1 v2 v3 v4 v5 v6 v7 v8 v9 v10 v11 : Option W), compL (.tp [.nm 12, .nm 13]) (bTru (pBv 13)) (pVar 12) 0 [v0, v1, v2, v3, v4, v5, v6, v7, v8, v9, v10, v11, none, none] (L.map rm) = some ((frees L).map fun p => .int (p.1 : Int)) := fun L v0 v1 v2 v3 v4 v5 v6 v7 v8 v9 v10 v11 => by
      refine comp_fm (fun p : Nat × Bool => p.2) (fun p : Nat × Bool => .int (p.1 : Int)) ?_
      rintro ⟨s, f⟩ hp
      unfold rm
      cases f <;> simp
    have e12 : ∀ (p : Nat) (v0 v1 v2 v3 v4 v5 v6 v7 v8 v9 v10 v13 : Option W), compL (.tp [.nm 12, .nm 11]) bYes (pVar 12) 0 [v0, v1, v2, v3, v4, v5, v6, v7, v8, v9, v10, none, none, v13] ((S.L.take p).map rm) = some ((S.L.take p).map fun p => .int (p.1 : Int)) := fun p v0 v1 v2 v3 v4 v5 v6 v7 v8 v9 v10 v13 => by
      refine comp_map (fun p : Nat × Bool => .int (p.1 : Int)) fun a ha => ?_
      unfold rm
      simp
    have lki : ∀ i : Int, K38.m_law_like [.int i, .int i] = some (0, .bl true) := fun i => like38 rfl
    have hfl : ∀ L : Rw, L.length ≤ 1000 → (frees L).length + 1 ≤ 1000000 := fun L h => by
      have := List.length_filter_le (fun p : Nat × Bool => p.2) L
      unfold frees; omega
    have sm := fun L : Rw => sum_ints' (fun p : Nat × Bool => (p.1 : Int)) (frees L) (k := 0) (by omega)
    have mx := fun L : Rw => max_frees (frees L)
    have lb : ∀ L : Rw, L.length ≤ 900 → L.length ≤ 1000000 := fun L h => by omega
    obtain ⟨t, n⟩ := d
    cases t with
    | true =>
      have hn : 0 < n := hd (true, n) (by rw [hp]; simp) rfl
      have f1 : K38.m_law_fit [.str "first", rmD S.L, .int (n : Int)] = some (0, od' (fitP true S.L n)) := fit_run true S.L n (by omega)
      have f2 : K38.m_law_fit [.str "best", rmD S.L, .int (n : Int)] = some (0, od' (fitP false S.L n)) := fit_run false S.L n (by omega)
      have r1 := first_run S.L n (by omega)
      have r2 := best_run S.L n (by omega)
      have lkn : K38.m_law_like [.non, .non] = some (0, .bl true) := like38 rfl
      have es : stp first S (true, n) = match fitP first S.L n with
        | none => ⟨S.L, S.bs ++ [none], S.hs ++ [none]⟩
        | some p => ⟨tak S.L p n, S.bs ++ [some (tot (S.L.take p))], S.hs ++ [some n]⟩ := rfl
      rw [es] at I' ⊢
      have fb : ¬ (Str.ofString "best" = Str.ofString "first") := by decide
      have fb' : ¬ (Str.ofString "first" = Str.ofString "best") := by decide
      have r1' : K38.m_first_room [rmD S.L, .int (n : Int)] = some (0, od' (fitP true S.L n)) := r1
      have r2' : K38.m_best_room [rmD S.L, .int (n : Int)] = some (0, od' (fitP false S.L n)) := r2
      cases hf : fitP first S.L n with
      | none =>
        rw [hf] at I'
        have lost := lost_run S.L (by omega)
        have fl := hfl S.L (by omega)
        have lb1 := lb S.L hL
        cases first with
        | true =>
          rw [hf] at r1' f1
          simp -implicitDefEqProofs [ddD, wy, fb', f1, r1', od', hbb, hhb, Pv.big, e11, lost, sm, mx, lki, fl, lkn, lb1]
          exact ⟨_, _, _, _, _, _, rfl, rfl, rfl, rfl, rfl, rfl, rfl⟩
        | false =>
          rw [hf] at r2' f2
          simp -implicitDefEqProofs [ddD, wy, fb, f2, r2', od', hbb, hhb, Pv.big, e11, lost, sm, mx, lki, fl, lkn, lb1]
          exact ⟨_, _, _, _, _, _, rfl, rfl, rfl, rfl, rfl, rfl, rfl⟩
      | some p =>
        rw [hf] at I'
        obtain ⟨q1, q2, q3⟩ := fit_ok hf
        have hT := len I'
        simp only at hT
        have lost := lost_run (tak S.L p n) (by omega)
        have fl := hfl (tak S.L p n) (by omega)
        have lb1 := lb (tak S.L p n) hT
        have lb2 := lb S.L hL
        have tk := taken_run S.L p n q1 q3 (by omega)
        have lkt := like_rm (tak S.L p n) (by omega)
        have hg := rAt_get q1
        have hg' := rAt_eq q1
        have hp1 : (p : Int) + 1 = ((p + 1 : Nat) : Int) := by omega
        have c1 : ∀ u v : D, cutL [u, v] none (some 1) = [u] := fun u v => rfl
        have c2 : ∀ u v : D, cutL [u, v] none (some 2) = [u, v] := fun u v => rfl
        have b7 : min p S.L.length + 1 ≤ 1000000 := by omega
        have b8 : min p S.L.length + 1 + (S.L.length - (p + 1)) ≤ 1000000 := by omega
        have b9 : min p S.L.length + 2 ≤ 1000000 := by omega
        have b0 : min p S.L.length + 2 + (S.L.length - (p + 1)) ≤ 1000000 := by omega
        have sb : gSum (1, .lst (List.take p (List.map (fun p : Nat × Bool => D.int (p.1 : Int)) S.L))) = some (0, .int (tot (S.L.take p) : Int)) := by
          rw [← List.map_take, sum_ints, sum_cast Prod.fst]; rfl
        have e12' := e12 p
        simp only [List.map_take] at e12'
        have b1 : min p S.L.length ≤ 1000000 := by omega
        unfold sz at q3
        by_cases e : (rAt S.L p).1 = n
        · have ev := tak_ev1 (L := S.L) (p := p) (z := n) e
          have nl : ¬ ((n : Int) < (rAt S.L p).1) := by omega
          cases first with
          | true =>
            rw [hf] at r1' f1
            simp -implicitDefEqProofs [ddD, wy, fb', f1, r1', od', hbb, hhb, Pv.big, e11, e12', lost, sm, mx, lki, fl, lkn, lb1, lb2, tk, lkt, hg, hg', e, nl, hp1, c1, c2, b7, b8, b1, sb, ev, hw11, -Int.natCast_add]
            exact ⟨_, _, _, _, _, _, rfl, rfl, rfl, rfl, rfl, rfl, rfl⟩
          | false =>
            rw [hf] at r2' f2
            simp -implicitDefEqProofs [ddD, wy, fb, f2, r2', od', hbb, hhb, Pv.big, e11, e12', lost, sm, mx, lki, fl, lkn, lb1, lb2, tk, lkt, hg, hg', e, nl, hp1, c1, c2, b7, b8, b1, sb, ev, hw11, -Int.natCast_add]
            exact ⟨_, _, _, _, _, _, rfl, rfl, rfl, rfl, rfl, rfl, rfl⟩
        · have ev := tak_ev2 (L := S.L) (p := p) (z := n) e
          have nl : ((n : Int) < (rAt S.L p).1) := by omega
          have e' : ((rAt S.L p).1 : Int) - (n : Int) = ((sz S.L p - n : Nat) : Int) := by unfold sz; omega
          cases first with
          | true =>
            rw [hf] at r1' f1
            simp -implicitDefEqProofs [ddD, wy, fb', f1, r1', od', hbb, hhb, Pv.big, e11, e12', lost, sm, mx, lki, fl, lkn, lb1, lb2, tk, lkt, hg, hg', e', nl, hp1, c1, c2, b9, b0, b1, sb, ev, hw11, -Int.natCast_add]
            exact ⟨_, _, _, _, _, _, rfl, rfl, rfl, rfl, rfl, rfl, rfl⟩
          | false =>
            rw [hf] at r2' f2
            simp -implicitDefEqProofs [ddD, wy, fb, f2, r2', od', hbb, hhb, Pv.big, e11, e12', lost, sm, mx, lki, fl, lkn, lb1, lb2, tk, lkt, hg, hg', e', nl, hp1, c1, c2, b9, b0, b1, sb, ev, hw11, -Int.natCast_add]
            exact ⟨_, _, _, _, _, _, rfl, rfl, rfl, rfl, rfl, rfl, rfl⟩
    | false =>
      have gt : ¬ (Str.ofString "give" = Str.ofString "take") := by decide
      have es : stp first S (false, n) = match (S.hs[n]?).join with
        | none => S
        | some _ => ⟨giv S.L (plc S.L (((S.bs[n]?).join).getD 0)), S.bs, S.hs.set n none⟩ := rfl
      rw [es] at I' ⊢
      have hnl : ((n : Int) < (S.hs.length : Int)) ↔ n < S.hs.length := by omega
      cases hh : (S.hs[n]?).join with
      | none =>
        have lost := lost_run S.L (by omega)
        have fl := hfl S.L (by omega)
        have lb1 := lb S.L hL
        by_cases q : n < S.hs.length
        · have hq : S.hs[n] = none := by
            rw [List.getElem?_eq_getElem q] at hh; simpa using hh
          simp -implicitDefEqProofs [ddD, gt, hnl, q, hq, e11, lost, sm, mx, lki, fl, lb1]
          exact ⟨_, _, _, _, _, _, rfl, rfl, rfl, rfl, rfl, rfl, rfl⟩
        · simp -implicitDefEqProofs [ddD, gt, hnl, q, e11, lost, sm, mx, lki, fl, lb1]
          exact ⟨_, _, _, _, _, _, rfl, rfl, rfl, rfl, rfl, rfl, rfl⟩
      | some s =>
        have h := join_some hh
        obtain ⟨p, p1, p2, p3⟩ := rin_at I h
        have hp' := (List.getElem?_eq_some_iff.mp p1).1
        rw [hh] at I'
        simp only [p3] at I' ⊢
        have hT := len I'
        simp only at hT
        have lost := lost_run (giv S.L p) (by omega)
        have fl := hfl (giv S.L p) (by omega)
        have lb1 := lb (giv S.L p) hT
        have po := law_place_run S.L I.pos hp'
        have gv := room_given_run S.L p (Nat.le_of_lt hp') (by omega)
        have gl := law_given_run S.L p (Nat.le_of_lt hp') (by omega)
        have lkg := like_rm (giv S.L p) (by omega)
        have q := (List.getElem?_eq_some_iff.mp h).1
        have hq : S.hs[n] = some s := by
          rw [List.getElem?_eq_getElem q] at h; exact Option.some.inj h
        have hnb := (List.getElem?_eq_some_iff.mp p2).1
        have hget : S.bs[n] = some (tot (S.L.take p)) := by
          rw [List.getElem?_eq_getElem hnb] at p2; exact Option.some.inj p2
        have hset : setAt (S.hs.map fun o : Option Nat => D.bl o.isSome) (n : Int) (.bl false) = some ((S.hs.set n none).map fun o : Option Nat => D.bl o.isSome) := by
          rw [setAt_n (by simpa using q), List.map_set]; rfl
        simp -implicitDefEqProofs [ddD, gt, hnl, q, hq, hget, hnb, od', po, gv, gl, lkg]
        refine wp_parS (a := 0) (b := 0) (k := 0) (d2 := rmD (giv S.L p)) (by simp) (by simp) (by simp) hset (by simp) ?_
        simp -implicitDefEqProofs [e11, lost, sm, mx, lki, fl, lb1, od']
        exact ⟨_, _, _, _, _, _, rfl, rfl, rfl, rfl, rfl, rfl, rfl⟩
  · rintro ρ ⟨w6, w7, w8, w9, w10, w11, _, rfl⟩
    simp
    exact hQ _
end HP
set_option Elab.async false
set_option linter.all false
set_option maxRecDepth 100000
/-! B7: takes alone; the two parts of the law about rooms -/
namespace HP
open PySem L2 Pv
def restL (r : Nat) : Rw := if r = 0 then [] else [(r, true)]
def begs : Nat → List Nat → List (Option Nat)
  | _, [] => []
  | o, z :: zs => some o :: begs (o + z) zs
def shut (A : List Nat) : Rw := A.map fun z => (z, false)
theorem rAt_app {A B : Rw} {i : Nat} (h : i < A.length) : rAt (A ++ B) i = rAt A i := by
  unfold rAt
  rw [List.getD_eq_getElem?_getD, List.getD_eq_getElem?_getD, List.getElem?_append_left h]
theorem rAt_shut {A : List Nat} {i : Nat} : (rAt (shut A) i).2 = false := by
  unfold rAt shut
  rw [List.getD_eq_getElem?_getD, List.getElem?_map]
  cases A[i]? <;> rfl
theorem tot_shut (A : List Nat) : tot (shut A) = A.sum := by
  unfold tot shut
  rw [List.map_map]
  have : (Prod.fst ∘ fun z : Nat => (z, false)) = id := rfl
  rw [this, List.map_id]
theorem places_last {A : List Nat} {r z : Nat} (h : z ≤ r) : places (shut A ++ [(r, true)]) z = [A.length] := by
  have hl : (shut A).length = A.length := by unfold shut; simp
  unfold places
  rw [List.length_append, hl]
  show (List.range (A.length + 1)).filter _ = _
  rw [List.range_succ, List.filter_append, List.filter_eq_nil_iff.mpr fun i hi => ?_]
  · have : okAt (shut A ++ [(r, true)]) z A.length = true := by
      unfold okAt rAt
      rw [List.getD_eq_getElem?_getD, List.getElem?_append_right (by omega), hl]
      simp [h]
    rw [List.filter_cons_of_pos this]; rfl
  · unfold okAt
    rw [rAt_app (by rw [hl]; exact List.mem_range.mp hi), rAt_shut]; simp
theorem fit_last (first : Bool) {A : List Nat} {r z : Nat} (h : z ≤ r) : fitP first (shut A ++ [(r, true)]) z = some A.length := by
  unfold fitP
  split
  · rw [places_last h]; rfl
  · unfold bestO bests
    rw [places_last h]; simp
theorem takes (first : Bool) : ∀ (zs A : List Nat) (r : Nat) (bs hs : List (Option Nat)), zs.sum ≤ r → (∀ z ∈ zs, 0 < z) →
    (zs.map fun z => (true, z)).foldl (stp first) ⟨shut A ++ restL r, bs, hs⟩ = ⟨shut (A ++ zs) ++ restL (r - zs.sum), bs ++ begs A.sum zs, hs ++ zs.map some⟩
  | [], A, r, bs, hs, _, _ => by simp [begs]
  | z :: zs, A, r, bs, hs, h, h0 => by
    have hz := h0 z List.mem_cons_self
    rw [List.sum_cons] at h
    have hr : ¬ r = 0 := by omega
    have hl : (shut A).length = A.length := by unfold shut; simp
    have er : restL r = [(r, true)] := by unfold restL; rw [if_neg hr]
    have es : stp first ⟨shut A ++ restL r, bs, hs⟩ (true, z) = ⟨shut (A ++ [z]) ++ restL (r - z), bs ++ [some A.sum], hs ++ [some z]⟩ := by
      unfold stp
      simp only [if_true]
      rw [er, fit_last first (by omega)]
      have e1 : (shut A ++ [(r, true)]).take A.length = shut A := by rw [← hl]; simp
      have e2 : (shut A ++ [(r, true)]).drop (A.length + 1) = [] := List.drop_eq_nil_of_le (by simp [hl])
      have e3 : sz (shut A ++ [(r, true)]) A.length = r := by
        unfold sz rAt
        rw [List.getD_eq_getElem?_getD, List.getElem?_append_right (by omega), hl]; simp
      have e4 : shut (A ++ [z]) = shut A ++ [(z, false)] := by unfold shut; simp
      simp only
      rw [e1, tot_shut]
      unfold tak
      rw [e1, e2, e3, e4]
      unfold restL
      by_cases e : r = z
      · subst e; simp
      · have : ¬ r - z = 0 := by omega
        rw [if_neg e, if_neg this]; simp
    rw [List.map_cons, List.foldl_cons, es, takes first zs _ _ _ _ (by omega) fun y hy => h0 y (List.mem_cons_of_mem _ hy)]
    have e5 : r - z - zs.sum = r - (z + zs.sum) := by omega
    simp [begs, e5]
theorem takes_run (first : Bool) {whole : Nat} (h : 0 < whole) {zs : List Nat} (hs : zs.sum ≤ whole) (h0 : ∀ z ∈ zs, 0 < z) : run first whole (zs.map fun z => (true, z)) = ⟨shut zs ++ restL (whole - zs.sum), begs 0 zs, zs.map some⟩ := by
  have := takes first zs [] whole [] [] hs h0
  have e : ini whole = ⟨shut [] ++ restL whole, [], []⟩ := by
    unfold ini restL shut
    rw [if_neg (by omega)]; rfl
  unfold run
  rw [e, this]; simp
/-! the first part -/
theorem law_both_run {whole : Nat} (h0 : 0 < whole) (hw : whole ≤ 900) (ds : List (Bool × Nat)) (hd : ∀ d ∈ ds, d.1 = true → 0 < d.2) (hl : ds.length ≤ 400) : K38.m_law_both [.int (whole : Int), .tup (ds.map ddD)] = some (0, .bl true) := by
  refine def_of0 rfl rfl fun Q hQ => ?_
  unfold K38.b_law_both
  obtain ⟨n, hn⟩ : ∃ n, n = (ds.filter fun d => d.1).length := ⟨_, rfl⟩
  have hn' : n ≤ 400 := by
    have := List.length_filter_le (fun d : Bool × Nat => d.1) ds
    omega
  have e6 : ∀ v0 v2 v3 v4 v5 v8 : Option W, compL (.tp [.nm 6, .nm 7]) (bVal (pOp2 gEq (pBv 6) (pC (.str "take")))) (pVar 6) 0 [v0, some (0, .tup (ds.map ddD)), v2, v3, v4, v5, none, none, v8] (ds.map ddD) = some ((ds.filter fun d => d.1).map fun _ => .str "take") := fun v0 v2 v3 v4 v5 v8 => by
    refine comp_fm (fun d : Bool × Nat => d.1) (fun _ => .str "take") ?_
    rintro ⟨t, m⟩ hm
    have gt : ¬ (Str.ofString "give" = Str.ofString "take") := by decide
    cases t <;> simp [ddD, gt]
  obtain ⟨G, hG⟩ : ∃ G : List (Bool × Nat), G = (List.range n).map fun k => (false, k) := ⟨_, rfl⟩
  have e8 : ∀ v0 v1 v2 v3 v4 v5 v6 v7 : Option W, compL (.nm 8) bYes (pTup (aCons (pC (.str "give")) (aCons (pVar 8) aNil))) 0 [v0, v1, v2, v3, v4, v5, v6, v7, none] ((List.range n).map IN) = some (G.map ddD) := fun v0 v1 v2 v3 v4 v5 v6 v7 => by
    rw [hG, List.map_map]
    refine comp_map (fun k : Nat => ddD (false, k)) fun k hk => ?_
    simp [ddD]
  have hGl : G.length = n := by rw [hG]; simp
  have b1 : ds.length ≤ 1000000 := by omega
  have b2 : n ≤ 1000000 := by omega
  have b3 : n ≤ 1000000000 := by omega
  have b4 : ds.length + n ≤ 1000000 := by omega
  have b5 : ds.length + n + 2 ≤ 1000000 := by omega
  have b5' : ds.length + (n + 2) ≤ 1000000 := by omega
  have hn2 := hn.symm
  simp -implicitDefEqProofs [e6, e8, hn2, hGl, b1, b2, b3, b4, b5, b5']
  refine wp_for (inj := wy) [true, false] (fun pre ρ => ∃ x y, ρ = [some (0, .int (whole : Int)), some (0, .tup (ds.map ddD)), some (0, .int (n : Int)), some (0, .tup (ds.map ddD ++ (G.map ddD ++ [.tup [.str "take", .int (whole : Int)], .tup [.str "take", .int 1]]))), x, y, none, none, none]) rfl ⟨none, none, by simp⟩ ?_ ?_
  · rintro pre first post ρ hp ⟨x, y, rfl⟩
    have hds : ∀ d ∈ ds ++ G ++ [(true, whole), (true, 1)], d.1 = true → 0 < d.2 := fun d hd' ht => by
      rcases List.mem_append.mp hd' with hd' | hd'
      · rcases List.mem_append.mp hd' with hd' | hd'
        · exact hd d hd' ht
        · rw [hG] at hd'
          obtain ⟨k, _, rfl⟩ := List.mem_map.mp hd'
          cases ht
      · rcases List.mem_cons.mp hd' with rfl | hd'
        · exact h0
        · rw [List.mem_singleton.mp hd']; exact Nat.one_pos
    have hlen : (ds ++ G ++ [(true, whole), (true, 1)]).length ≤ 1000 := by simp [hGl]; omega
    have hhs : (run first whole ds).hs.length = n := by
      have := run_len (first := first) ds (ini whole)
      unfold run
      rw [this, ← hn]
      show 0 + n = n; omega
    have I : Rin whole (run first whole ds) := rin_fold (rin_ini h0) hd
    have ra := run_after (first := first) h0 hd hhs
    rw [← hG] at ra
    have lr := law_run_run first h0 hw _ hds hlen
    have rr := rooms_run_run first h0 (by omega) _ hds hlen
    have r2 := rooms_run_run first h0 (by omega) ds hd (by omega)
    rw [ra] at lr rr
    have hB : (run first whole ds).bs.length = n := by rw [I.len, hhs]
    generalize (run first whole ds).bs = B at *
    have em : (ds ++ G ++ [(true, whole), (true, 1)]).map ddD = ds.map ddD ++ (G.map ddD ++ [.tup [.str "take", .int (whole : Int)], .tup [.str "take", .int 1]]) := by simp [ddD]
    have eb : (B ++ [some 0, none]).map od' = B.map od' ++ [.int 0, .non] := by simp [od']
    rw [em, eb] at lr rr
    have lk1 : K38.m_law_like [.tup (B.map od' ++ [.int 0, .non]), .tup (B.map od' ++ [.int 0, .non])] = some (0, .bl true) := like38 (likeOk_all (by simp; omega) fun d hd => by
      rcases List.mem_append.mp hd with hd | hd
      · obtain ⟨o, _, rfl⟩ := List.mem_map.mp hd
        cases o <;> rfl
      · rcases List.mem_cons.mp hd with rfl | hd
        · rfl
        · rw [List.mem_singleton.mp hd]; rfl)
    have lk2 : K38.m_law_like [.tup (B.map od'), .tup (B.map od')] = some (0, .bl true) := like38 (likeOk_all (by simp; omega) fun d hd => by
      obtain ⟨o, _, rfl⟩ := List.mem_map.mp hd
      cases o <;> rfl)
    have hdrop : cutL (B.map od' ++ [.int 0, .non]) (some (n : Int)) none = [.int 0, .non] := by
      rw [cut_drop, List.drop_append_of_le_length (by simp [hB]), List.drop_eq_nil_of_le (by simp [hB])]; rfl
    have htake : cutL (B.map od' ++ [.int 0, .non]) none (some (n : Int)) = B.map od' := by
      rw [cut_take, List.take_append_of_le_length (by simp [hB]), List.take_of_length_le (by simp [hB])]
    have ne : ∀ k l : Nat, gNe (k, .tup [.int 0, .non]) (l, .tup [.int 0, .non]) = some (0, .bl false) := fun k l => by
      obtain ⟨b, hb, _, h2⟩ := eq_dec (k := k) (l := l) (ds := [.int 0, .non]) (es := [.int 0, .non]) rfl rfl rfl rfl
      rw [h2, hb.mpr rfl]; rfl
    simp -implicitDefEqProofs [lr, rr, r2, lk1, lk2, hdrop, htake, ne]
  · rintro ρ ⟨x, y, rfl⟩
    simp
    exact hQ _
end HP
set_option Elab.async false
set_option linter.all false
set_option maxRecDepth 100000
/-! B8: the two ways told apart -/
namespace HP
open PySem L2 Pv
theorem apart_plain (first : Bool) {far one near two size rest : Nat} (h1 : 5 ≤ far) (h2 : 2 ≤ near) (h3 : near ≤ 4) (h4 : 1 ≤ size) (h5 : size ≤ 2) (h6 : 0 < one) (h7 : 0 < two) (h8 : rest = 0 ∨ 20 ≤ rest) :
    (run first (far + one + near + two + rest) [(true, far), (true, one), (true, near), (true, two), (false, 0), (false, 2), (true, size)]).bs = [some 0, some far, some (far + one), some (far + one + near), some (if first = true then 0 else far + one)] := by
  have t := takes_run first (whole := far + one + near + two + rest) (zs := [far, one, near, two]) (by omega) (by simp; omega) (by simp; omega)
  obtain ⟨T, hT⟩ : ∃ T, T = restL rest := ⟨_, rfl⟩
  have er : far + one + near + two + rest - [far, one, near, two].sum = rest := by simp; omega
  rw [er, ← hT] at t
  have hTm : ∀ q ∈ T, 20 ≤ q.1 := fun q hq => by
    rw [hT] at hq
    unfold restL at hq
    split at hq
    · cases hq
    · rw [List.mem_singleton.mp hq]
      rcases h8 with h8 | h8
      · contradiction
      · exact h8
  have e0 : shut [far, one, near, two] ++ T = (far, false) :: (one, false) :: (near, false) :: (two, false) :: T := rfl
  have eb : begs 0 [far, one, near, two] = [some 0, some far, some (far + one), some (far + one + near)] := by simp [begs]
  rw [e0, eb] at t
  have P0 : ∀ b1 b2 : Bool, Pos ((far, b1) :: (one, false) :: (near, b2) :: (two, false) :: T) := fun b1 b2 q hq => by
    simp only [List.mem_cons] at hq
    rcases hq with rfl | rfl | rfl | rfl | hq
    · show 0 < far; omega
    · exact h6
    · show 0 < near; omega
    · exact h7
    · have := hTm q hq; omega
  have g1 : giv ((far, false) :: (one, false) :: (near, false) :: (two, false) :: T) 0 = (far, true) :: (one, false) :: (near, false) :: (two, false) :: T := by
    simp [giv, loG, hiG, frAt]
  have g2 : giv ((far, true) :: (one, false) :: (near, false) :: (two, false) :: T) 2 = (far, true) :: (one, false) :: (near, true) :: (two, false) :: T := by
    simp [giv, loG, hiG, frAt]
  have p1 : plc ((far, false) :: (one, false) :: (near, false) :: (two, false) :: T) 0 = 0 := plc_eq (p := 0) (P0 _ _) (Nat.zero_le _)
  have p2 : plc ((far, true) :: (one, false) :: (near, false) :: (two, false) :: T) (far + one) = 2 := by
    have := plc_eq (p := 2) (P0 true false) (by simp)
    simpa using this
  have f : fitP first ((far, true) :: (one, false) :: (near, true) :: (two, false) :: T) size = some (if first = true then 0 else 2) := by
    unfold fitP
    cases first with
    | true =>
      have ho : okAt ((far, true) :: (one, false) :: (near, true) :: (two, false) :: T) size 0 = true := by
        simp [okAt, rAt]; omega
      obtain ⟨r, hr⟩ := places_head (by simp) ho (fun j hj => by omega)
      rw [if_pos rfl, hr]; rfl
    | false =>
      rw [if_neg (by simp)]
      refine bst_eq ⟨by simp, by simp [okAt, rAt]; omega, fun j hj hjo => ?_⟩
      match j, hjo with
      | 0, _ => simp [sz, rAt]; omega
      | 1, hjo => simp [okAt, rAt] at hjo
      | 2, _ => simp [sz, rAt]
      | 3, hjo => simp [okAt, rAt] at hjo
      | j + 4, _ =>
        have hj4 : j < T.length := by simpa using hj
        have : 20 ≤ (rAt T j).1 := by
          rw [← rAt_eq hj4]
          exact hTm _ (List.getElem_mem hj4)
        have e : sz ((far, true) :: (one, false) :: (near, true) :: (two, false) :: T) (j + 4) = (rAt T j).1 := by simp [sz, rAt]
        rw [e]
        simp [sz, rAt] at *
        omega
  have hsplit : ([(true, far), (true, one), (true, near), (true, two), (false, 0), (false, 2), (true, size)] : List (Bool × Nat)) = ([far, one, near, two].map fun z => (true, z)) ++ [(false, 0), (false, 2), (true, size)] := rfl
  rw [hsplit]
  have hrun : run first (far + one + near + two + rest) (([far, one, near, two].map fun z => (true, z)) ++ [(false, 0), (false, 2), (true, size)]) = stp first (stp first (stp first (run first (far + one + near + two + rest) ([far, one, near, two].map fun z => (true, z))) (false, 0)) (false, 2)) (true, size) := by
    unfold run
    rw [List.foldl_append]; rfl
  rw [hrun, t]
  have s1 : stp first ⟨(far, false) :: (one, false) :: (near, false) :: (two, false) :: T, [some 0, some far, some (far + one), some (far + one + near)], [far, one, near, two].map some⟩ (false, 0) = ⟨(far, true) :: (one, false) :: (near, false) :: (two, false) :: T, [some 0, some far, some (far + one), some (far + one + near)], [none, some one, some near, some two]⟩ := by
    unfold stp
    simp [p1, g1]
  have s2 : stp first ⟨(far, true) :: (one, false) :: (near, false) :: (two, false) :: T, [some 0, some far, some (far + one), some (far + one + near)], [none, some one, some near, some two]⟩ (false, 2) = ⟨(far, true) :: (one, false) :: (near, true) :: (two, false) :: T, [some 0, some far, some (far + one), some (far + one + near)], [none, some one, none, some two]⟩ := by
    unfold stp
    simp [p2, g2]
  rw [s1, s2]
  unfold stp
  simp only [if_true, f]
  cases first <;> simp
theorem law_apart_run (r : Nat → Nat) : K38.m_law_apart [.lst ((List.range 54).map fun i => IN (r i))] = some (0, .bl true) := by
  refine def_of0 rfl rfl fun Q hQ => ?_
  unfold K38.b_law_apart
  obtain ⟨R, hR⟩ : ∃ R, R = (List.range 54).map fun i => IN (r i) := ⟨_, rfl⟩
  have hx : ∀ (i : Nat), i < 54 → R[i]? = some (.int (r i : Int)) := fun i hi => by
    rw [hR]
    simp [hi]
  rw [← hR]
  have x22 := hx 22 (by omega)
  have x23 := hx 23 (by omega)
  have x24 := hx 24 (by omega)
  have x25 := hx 25 (by omega)
  have x26 := hx 26 (by omega)
  have x27 := hx 27 (by omega)
  have x28 := hx 28 (by omega)
  obtain ⟨far, hfar⟩ : ∃ far : Nat, far = 5 + r 22 % 9 := ⟨_, rfl⟩
  obtain ⟨near, hnear⟩ : ∃ near : Nat, near = 2 + r 23 % 3 := ⟨_, rfl⟩
  obtain ⟨size, hsize⟩ : ∃ size : Nat, size = 1 + r 24 % 2 := ⟨_, rfl⟩
  obtain ⟨one, hone⟩ : ∃ one : Nat, one = 1 + r 25 % 4 := ⟨_, rfl⟩
  obtain ⟨two, htwo⟩ : ∃ two : Nat, two = 1 + r 26 % 4 := ⟨_, rfl⟩
  obtain ⟨rest, hrest⟩ : ∃ rest : Nat, rest = r 27 % 2 * (20 + r 28 % 9) := ⟨_, rfl⟩
  have c1 : (5 : Int) + (r 22 : Int) % 9 = (far : Int) := by omega
  have c2 : (2 : Int) + (r 23 : Int) % 3 = (near : Int) := by omega
  have c3 : (1 : Int) + (r 24 : Int) % 2 = (size : Int) := by omega
  have c4 : (1 : Int) + (r 25 : Int) % 4 = (one : Int) := by omega
  have c5 : (1 : Int) + (r 26 : Int) % 4 = (two : Int) := by omega
  have c6 : (r 27 : Int) % 2 * (20 + (r 28 : Int) % 9) = (rest : Int) := by
    rw [hrest]; simp
  have hr8 : rest = 0 ∨ 20 ≤ rest := by
    rw [hrest]
    rcases Nat.mod_two_eq_zero_or_one (r 27) with h | h
    · left; rw [h]; simp
    · right; rw [h]; omega
  have hr30 : rest ≤ 30 := by
    rw [hrest]
    rcases Nat.mod_two_eq_zero_or_one (r 27) with h | h
    · rw [h]; omega
    · rw [h]; omega
  have d1 : -18446744073709551616 < (20 : Int) + (r 28 : Int) % 9 ∧ (20 : Int) + (r 28 : Int) % 9 < 18446744073709551616 := by omega
  have ap := fun first => apart_plain first (far := far) (one := one) (near := near) (two := two) (size := size) (rest := rest) (by omega) (by omega) (by omega) (by omega) (by omega) (by omega) (by omega) hr8
  have rr := fun first => rooms_run_run first (whole := far + one + near + two + rest) (by omega) (by omega) [(true, far), (true, one), (true, near), (true, two), (false, 0), (false, 2), (true, size)] (by simp; omega) (by simp)
  have ra := rr true
  have rb := rr false
  rw [ap] at ra rb
  have cw : (far : Int) + one + near + two + rest = ((far + one + near + two + rest : Nat) : Int) := by omega
  have cn : (far : Int) + one = ((far + one : Nat) : Int) := by omega
  have cm : ((far + one : Nat) : Int) + near = ((far + one + near : Nat) : Int) := by omega
  have ct : ((far + one + near : Nat) : Int) + two = ((far + one + near + two : Nat) : Int) := by omega
  have cu : ((far + one + near + two : Nat) : Int) + rest = ((far + one + near + two + rest : Nat) : Int) := by omega
  have lk : ∀ a b c d e : Int, K38.m_law_like [.tup [.int a, .int b, .int c, .int d, .int e], .tup [.int a, .int b, .int c, .int d, .int e]] = some (0, .bl true) := fun a b c d e => like38 rfl
  simp only [List.map_cons, List.map_nil, ddD, wy, if_true, od', if_false, Bool.false_eq_true] at ra rb
  have z0 : ((0 : Nat) : Int) = 0 := rfl
  have z2 : ((2 : Nat) : Int) = 2 := rfl
  rw [z0, z2] at ra rb
  clear hR hx ap rr
  simp -implicitDefEqProofs [x22, x23, x24, x25, x26, x27, x28, c1, c2, c3, c4, c5, c6, d1, cn, cm, ct, cu, ra, rb, lk, -Int.natCast_add]
  exact hQ _
end HP
set_option Elab.async false
set_option linter.all false
set_option maxRecDepth 100000
/-! B9: linked -/
namespace HP
open PySem L2 Pv
structure Pt where
  t : List Str
  a : List Str
  z : Nat
def ptD (p : Pt) : D := .tup [.tup (p.t.map D.str), .tup (p.a.map D.str), .int (p.z : Int)]
structure PtOk (p : Pt) : Prop where
  nd : p.t.Nodup
  lt : p.t.length ≤ 2
  la : p.a.length ≤ 2
  z1 : 0 < p.z
  z9 : p.z ≤ 9
  st : ∀ s ∈ p.t, PyData.strOk s = true
  sa : ∀ s ∈ p.a, PyData.strOk s = true
def prs : Nat → List Pt → List (Str × Nat)
  | _, [] => []
  | o, q :: qs => (q.t.map fun s => (s, o)) ++ prs (o + q.z) qs
def nms (qs : List Pt) : List Str := qs.flatMap Pt.t
def asks (qs : List Pt) : List Str := qs.flatMap Pt.a
def szs (qs : List Pt) : Nat := (qs.map Pt.z).sum
def wrg (qs : List Pt) : List Str := ((nms qs).filter fun s => decide (1 < (nms qs).count s)) ++ (asks qs).filter fun s => !decide (s ∈ nms qs)
theorem prs_snoc : ∀ (qs : List Pt) (q : Pt) (o : Nat), prs o (qs ++ [q]) = prs o qs ++ q.t.map fun s => (s, o + szs qs)
  | [], q, o => by simp [prs, szs]
  | p :: qs, q, o => by
    rw [List.cons_append, prs, prs_snoc qs q, prs, List.append_assoc]
    have : o + p.z + szs qs = o + szs (p :: qs) := by unfold szs; simp; omega
    rw [this]
theorem nms_snoc (qs : List Pt) (q : Pt) : nms (qs ++ [q]) = nms qs ++ q.t := by unfold nms; simp
theorem asks_snoc (qs : List Pt) (q : Pt) : asks (qs ++ [q]) = asks qs ++ q.a := by unfold asks; simp
theorem szs_snoc (qs : List Pt) (q : Pt) : szs (qs ++ [q]) = szs qs + q.z := by unfold szs; simp
theorem prs_lt : ∀ {qs : List Pt} {o : Nat} {p : Str × Nat}, (∀ q ∈ qs, 0 < q.z) → p ∈ prs o qs → p.2 < o + szs qs
  | [], _, _, _, h => by cases h
  | q :: qs, o, p, h0, h => by
    have hz := h0 q List.mem_cons_self
    have e : szs (q :: qs) = q.z + szs qs := by unfold szs; simp
    rw [prs] at h
    rcases List.mem_append.mp h with h | h
    · obtain ⟨s, _, rfl⟩ := List.mem_map.mp h
      show o < _; omega
    · have := prs_lt (fun r hr => h0 r (List.mem_cons_of_mem _ hr)) h
      omega
theorem nms_len : ∀ {qs : List Pt}, (∀ q ∈ qs, PtOk q) → (nms qs).length ≤ 2 * qs.length
  | [], _ => by simp [nms]
  | q :: qs, h => by
    have h1 := (h q List.mem_cons_self).lt
    have h2 := nms_len fun r hr => h r (List.mem_cons_of_mem _ hr)
    unfold nms at *
    rw [List.flatMap_cons, List.length_append, List.length_cons]; omega
theorem asks_len : ∀ {qs : List Pt}, (∀ q ∈ qs, PtOk q) → (asks qs).length ≤ 2 * qs.length
  | [], _ => by simp [asks]
  | q :: qs, h => by
    have h1 := (h q List.mem_cons_self).la
    have h2 := asks_len fun r hr => h r (List.mem_cons_of_mem _ hr)
    unfold asks at *
    rw [List.flatMap_cons, List.length_append, List.length_cons]; omega
theorem prs_len : ∀ {qs : List Pt} {o : Nat}, (prs o qs).length = (nms qs).length
  | [], _ => rfl
  | q :: qs, o => by
    have := prs_len (qs := qs) (o := o + q.z)
    unfold nms at *
    rw [prs, List.length_append, List.flatMap_cons, List.length_append, this, List.length_map]
/-- the dict of pairs -/
def dP (ps : List (Str × Nat)) : List (List Key × D) := ps.map fun p => ([.inr p.1, .inl (p.2 : Int)], D.bl true)
theorem valD_P {s : Str} {o : Nat} : ∀ {ps : List (Str × Nat)}, (s, o) ∉ ps → valD (dP ps) [.inr s, .inl (o : Int)] = none
  | [], _ => rfl
  | p :: ps, h => by
    have ih := valD_P (s := s) (o := o) (ps := ps) fun z => h (List.mem_cons_of_mem _ z)
    unfold dP at *
    rw [List.map_cons]
    unfold valD
    rw [if_neg, ih]
    intro e
    have h1 := Sum.inr.inj (List.cons.inj e).1
    have h2 := Sum.inl.inj (List.cons.inj (List.cons.inj e).2).1
    exact h (by rw [show (s, o) = p from Prod.ext h1.symm (by show o = p.2; omega)]; exact List.mem_cons_self)
theorem putD_P {s : Str} {o : Nat} {ps : List (Str × Nat)} (h : (s, o) ∉ ps) : putD (dP ps) [.inr s, .inl (o : Int)] (.bl true) = dP (ps ++ [(s, o)]) := by
  unfold putD
  rw [valD_P h]
  simp only [Option.isSome_none, Bool.false_eq_true, if_false]
  unfold dP
  rw [List.map_append]; rfl
theorem dP_keys (ps : List (Str × Nat)) : (dP ps).map (fun p => keyDat true p.1) = ps.map prT := by
  unfold dP
  rw [List.map_map]; rfl
def pAt (ps : List Pt) (i : Nat) : Pt := ps.getD i ⟨[], [], 1⟩
theorem pAt_get {ps : List Pt} {i : Nat} (h : i < ps.length) : ps[i] = pAt ps i := by unfold pAt; simp [h]
theorem snoc_nd {α : Type} [DecidableEq α] {T : List α} {s : α} (h : T.Nodup) : (if s ∈ T then T else T ++ [s]).Nodup := by
  split
  · exact h
  · rename_i hs
    exact List.nodup_append.mpr ⟨h, by simp, fun a ha b hb => by rw [List.mem_singleton.mp hb]; exact fun e => hs (e ▸ ha)⟩
theorem snoc_mem {α : Type} [DecidableEq α] {T L : List α} {s : α} (h : ∀ x, x ∈ T ↔ x ∈ L) (x : α) : x ∈ (if s ∈ T then T else T ++ [s]) ↔ x ∈ L ++ [s] := by
  split
  · rename_i hs
    rw [List.mem_append, h x]
    refine ⟨.inl, fun q => q.elim id fun q => ?_⟩
    rw [List.mem_singleton.mp q]; exact (h s).mp hs
  · rw [List.mem_append, List.mem_append, h x]
theorem snoc_len {α : Type} [DecidableEq α] {T L : List α} {s : α} (h : T.length ≤ L.length) : (if s ∈ T then T else T ++ [s]).length ≤ (L ++ [s]).length := by
  split
  · simp; omega
  · simp; omega
theorem linked_run (ps : List Pt) (ord : List Nat) (hps : ∀ p ∈ ps, PtOk p) (hl : ps.length ≤ 6) (ho : ∀ i ∈ ord, i < ps.length) (hol : ord.length ≤ 6) :
    K38.m_linked [.tup (ps.map ptD), .tup (ord.map IN)] = some (0, .tup [.tup (((prs 0 (ord.map (pAt ps))).mergeSort leT).map prT), .tup ((srtS (wrg (ord.map (pAt ps)))).map D.str)]) := by
  have ok : ∀ i, i < ps.length → PtOk (pAt ps i) := fun i hi => by rw [← pAt_get hi]; exact hps _ (List.getElem_mem hi)
  refine def_of0 rfl ?_ fun Q hQ => ?_
  · show (noBoxs _ && (noBoxs _ && true)) = true
    rw [noBoxs_all fun d hd => by obtain ⟨o, _, rfl⟩ := List.mem_map.mp hd; rfl, noBoxs_all fun d hd => by obtain ⟨o, _, rfl⟩ := List.mem_map.mp hd; rfl]; rfl
  unfold K38.b_linked
  simp
  refine wp_for (inj := IN) ord (fun pre ρ => ∃ (T A : List Str) (x6 x7 x8 x9 x10 : Option W), T.Nodup ∧ (∀ s, s ∈ T ↔ s ∈ nms (pre.map (pAt ps))) ∧ T.length ≤ (nms (pre.map (pAt ps))).length ∧ A.Nodup ∧ (∀ s, s ∈ A ↔ s ∈ asks (pre.map (pAt ps))) ∧ A.length ≤ (asks (pre.map (pAt ps))).length ∧ lvl0 (some x10) = true ∧
    ρ = [some (0, .tup (ps.map ptD)), some (0, .tup (ord.map IN)), some (1, .dct true (dP (prs 0 (pre.map (pAt ps))))), some (1, .dct false (dS T fun s => .int (((nms (pre.map (pAt ps))).count s : Nat) : Int))), some (1, .dct false (dS A fun _ => .bl true)), some (0, .int (szs (pre.map (pAt ps)) : Int)), x6, x7, x8, x9, x10, none]) rfl
    ⟨[], [], none, none, none, none, none, List.nodup_nil, by simp [nms], by simp, List.nodup_nil, by simp [asks], by simp, rfl, by simp [prs, dP, dS, szs]⟩ ?_ ?_
  · rintro pre i post ρ hp ⟨T, A, x6, x7, x8, x9, x10, hT1, hT2, hT3, hA1, hA2, hA3, hx, rfl⟩
    have hi : i < ps.length := ho i (by rw [hp]; simp)
    have hpre : ∀ q ∈ pre.map (pAt ps), PtOk q := fun q hq => by
      obtain ⟨j, hj, rfl⟩ := List.mem_map.mp hq
      exact ok j (ho j (by rw [hp]; simp [hj]))
    have hpl : pre.length < 6 := by
      have := congrArg List.length hp
      simp at this; omega
    have nl := nms_len hpre
    have al := asks_len hpre
    rw [List.length_map] at nl al
    have q := ok i hi
    have hget := pAt_get hi
    rw [List.map_append, List.map_cons, List.map_nil]
    generalize pre.map (pAt ps) = qs at *
    rw [prs_snoc, nms_snoc, asks_snoc, szs_snoc]
    generalize pAt ps i = p at *
    have b1 : ps.length ≤ 1000000 := by omega
    simp -implicitDefEqProofs [hi, hget, ptD]
    refine wp_for (inj := D.str) p.t (fun pre2 ρ => ∃ (T : List Str) (x10 : Option W), T.Nodup ∧ (∀ s, s ∈ T ↔ s ∈ nms qs ++ pre2) ∧ T.length ≤ (nms qs ++ pre2).length ∧ lvl0 (some x10) = true ∧
      ρ = [some (0, .tup (ps.map ptD)), some (0, .tup (ord.map IN)), some (1, .dct true (dP (prs 0 qs ++ pre2.map fun s => (s, 0 + szs qs)))), some (1, .dct false (dS T fun s => .int (((nms qs ++ pre2).count s : Nat) : Int))), some (1, .dct false (dS A fun _ => .bl true)), some (0, .int (szs qs : Int)), some (0, .int (i : Int)), some (0, .tup (p.t.map D.str)), some (0, .tup (p.a.map D.str)), some (0, .int (p.z : Int)), x10, none]) rfl
      ⟨T, x10, hT1, by simpa using hT2, by simpa using hT3, hx, by simp [ptD]⟩ ?_ ?_
    · rintro pre2 s post2 ρ hp2 ⟨T, x10, hT1, hT2, hT3, hx, rfl⟩
      have hfr : (s, 0 + szs qs) ∉ prs 0 qs ++ pre2.map fun s => (s, 0 + szs qs) := fun h => by
        rcases List.mem_append.mp h with h | h
        · have := prs_lt (fun r hr => (hpre r hr).z1) h
          simp at this
        · obtain ⟨s', hs', e⟩ := List.mem_map.mp h
          have e1 : s' = s := congrArg Prod.fst e
          subst e1
          have nd := q.nd
          rw [hp2] at nd
          exact (List.nodup_append.mp nd).2.2 s' hs' s' List.mem_cons_self rfl
      have pl2 : pre2.length ≤ 2 := by
        have := congrArg List.length hp2
        have := q.lt
        simp at *; omega
      have hpp := putD_P hfr
      rw [Nat.zero_add] at hpp
      have hTl : T.length ≤ 100 := by
        rw [List.length_append] at hT3; omega
      have hdl : (dS T fun s => D.int (((nms qs ++ pre2).count s : Nat) : Int)).length < 1000000 := by unfold dS; simp; omega
      have hdp : (dP (prs 0 qs ++ pre2.map fun s => (s, szs qs))).length < 1000000 := by unfold dP; simp [prs_len]; omega
      have hg : (valD (dS T fun s => D.int (((nms qs ++ pre2).count s : Nat) : Int)) [.inr s]).getD (.int 0) = .int (((nms qs ++ pre2).count s : Nat) : Int) := by
        rw [valD_S]
        by_cases e : s ∈ T
        · rw [if_pos e]; rfl
        · rw [if_neg e]
          have : (nms qs ++ pre2).count s = 0 := List.count_eq_zero.mpr fun h => e ((hT2 s).mpr h)
          rw [this]; rfl
      have hput : putD (dS T fun s => D.int (((nms qs ++ pre2).count s : Nat) : Int)) [.inr s] (.int ((((nms qs ++ pre2).count s : Nat) : Int) + 1)) = dS (if s ∈ T then T else T ++ [s]) fun x => .int (((nms qs ++ (pre2 ++ [s])).count x : Nat) : Int) := by
        refine putD_S (fun x _ hx => ?_) ?_
        · rw [← List.append_assoc, List.count_append (l₁ := nms qs ++ pre2)]
          have : [s].count x = 0 := List.count_eq_zero.mpr fun h => hx (List.mem_singleton.mp h)
          rw [this]; rfl
        · rw [← List.append_assoc, List.count_append (l₁ := nms qs ++ pre2)]
          have : [s].count s = 1 := by simp
          rw [this]; rfl
      simp only [Nat.zero_add] at *
      simp -implicitDefEqProofs [Pv.big, hdp, hdl, hpp, hg, hput, -List.append_assoc, -List.count_append, -List.length_append]
      refine ⟨_, snoc_nd hT1, fun x => ?_, ?_, _, rfl, by rw [List.append_assoc], rfl, rfl⟩
      · have := snoc_mem (s := s) hT2 x
        rw [this]; simp [or_assoc]
      · have := snoc_len (s := s) hT3
        rw [List.append_assoc] at this
        exact this
    · rintro ρ ⟨T, x10, hT1, hT2, hT3, hx, rfl⟩
      simp
      refine wp_for (inj := D.str) p.a (fun pre2 ρ => ∃ (A : List Str) (x10 : Option W), A.Nodup ∧ (∀ s, s ∈ A ↔ s ∈ asks qs ++ pre2) ∧ A.length ≤ (asks qs ++ pre2).length ∧ lvl0 (some x10) = true ∧
        ρ = [some (0, .tup (ps.map ptD)), some (0, .tup (ord.map IN)), some (1, .dct true (dP (prs 0 qs ++ p.t.map fun s => (s, szs qs)))), some (1, .dct false (dS T fun s => .int (((nms qs).count s : Nat) + (p.t.count s : Nat) : Int))), some (1, .dct false (dS A fun _ => .bl true)), some (0, .int (szs qs : Int)), some (0, .int (i : Int)), some (0, .tup (p.t.map D.str)), some (0, .tup (p.a.map D.str)), some (0, .int (p.z : Int)), x10, none]) rfl
        ⟨A, x10, hA1, by simpa using hA2, by simpa using hA3, hx, rfl⟩ ?_ ?_
      · rintro pre2 s post2 ρ hp2 ⟨A, x10, hA1, hA2, hA3, hx, rfl⟩
        have pl2 : pre2.length ≤ 2 := by
          have := congrArg List.length hp2
          have := q.la
          simp at *; omega
        have hAl : A.length ≤ 100 := by
          rw [List.length_append] at hA3; omega
        have hdl : (dS A fun _ => D.bl true).length < 1000000 := by unfold dS; simp; omega
        have hput : putD (dS A fun _ => D.bl true) [.inr s] (.bl true) = dS (if s ∈ A then A else A ++ [s]) fun _ => .bl true := putD_S (fun _ _ _ => rfl) rfl
        simp -implicitDefEqProofs [Pv.big, hdl, hput, -List.append_assoc, -List.length_append]
        refine ⟨_, snoc_nd hA1, fun x => ?_, ?_, rfl⟩
        · have := snoc_mem (s := s) hA2 x
          rw [this]; simp [or_assoc]
        · have := snoc_len (s := s) hA3
          rw [List.append_assoc] at this
          exact this
      · rintro ρ ⟨A, x10, hA1, hA2, hA3, hx, rfl⟩
        simp
        exact ⟨T, hT1, by simpa using hT2, by simpa using hT3, A, hA1, by simpa using hA2, by simpa using hA3, _, _, _, _, _, hx, rfl, rfl, rfl, rfl, rfl, rfl, rfl⟩
  · rintro ρ ⟨T, A, x6, x7, x8, x9, x10, hT1, hT2, hT3, hA1, hA2, hA3, hx, rfl⟩
    have hord : ∀ q ∈ ord.map (pAt ps), PtOk q := fun q hq => by
      obtain ⟨j, hj, rfl⟩ := List.mem_map.mp hq
      exact ok j (ho j hj)
    have nl := nms_len hord
    have al := asks_len hord
    rw [List.length_map] at nl al
    have hq := hQ
    generalize ord.map (pAt ps) = qs at *
    have e1 : ∀ v0 v1 v2 v4 v5 v6 v7 v8 v9 v11 : Option W, compL (.nm 10) (bVal (pOp2 (gCmpI fun i j => decide (j < i)) (pOp2 gDGet (pBv 3) (pBv 10)) (pC (.int 1)))) (pVar 10) 0 [v0, v1, v2, some (0, .dct false (dS T fun s => .int (((nms qs).count s : Nat) : Int))), v4, v5, v6, v7, v8, v9, none, v11] (T.map D.str) = some ((T.filter fun s => decide (1 < (nms qs).count s)).map D.str) := fun v0 v1 v2 v4 v5 v6 v7 v8 v9 v11 => by
      refine comp_fm (fun s : Str => decide (1 < (nms qs).count s)) D.str fun s hs => ?_
      have hv := valD_S (f := fun s => D.int (((nms qs).count s : Nat) : Int)) (s := s) T
      rw [if_pos hs] at hv
      have hc : ((1 : Int) < (((nms qs).count s : Nat) : Int)) ↔ 1 < (nms qs).count s := by omega
      simp -implicitDefEqProofs [hv, hc]
    have e2 : ∀ v0 v1 v2 v4 v5 v6 v7 v8 v9 v11 : Option W, compL (.nm 10) (bVal (pOp2 (gDIn true) (pBv 10) (pBv 3))) (pVar 10) 0 [v0, v1, v2, some (0, .dct false (dS T fun s => .int (((nms qs).count s : Nat) : Int))), v4, v5, v6, v7, v8, v9, none, v11] (A.map D.str) = some ((A.filter fun s => !decide (s ∈ T)).map D.str) := fun v0 v1 v2 v4 v5 v6 v7 v8 v9 v11 => by
      refine comp_fm (fun s : Str => !decide (s ∈ T)) D.str fun s hs => ?_
      have hv := valD_S (f := fun s => D.int (((nms qs).count s : Nat) : Int)) (s := s) T
      by_cases e : s ∈ T
      · rw [if_pos e] at hv
        simp -implicitDefEqProofs [hv, e]
      · rw [if_neg e] at hv
        simp -implicitDefEqProofs [hv, e]
    have l1 : T.length ≤ 1000000 := by omega
    have l2 : A.length ≤ 1000000 := by omega
    have f1 := List.length_filter_le (fun s => decide (1 < (nms qs).count s)) T
    have f2 := List.length_filter_le (fun s => !decide (s ∈ T)) A
    have l3 : (T.filter fun s => decide (1 < (nms qs).count s)).length + (A.filter fun s => !decide (s ∈ T)).length ≤ 1000000 := by omega
    have sp : sortD ((prs 0 qs).map prT) = some (1, .lst (((prs 0 qs).mergeSort leT).map prT)) := sortD_T (by rw [prs_len]; omega)
    have sw : gSorted (1, .lst (((T.filter fun s => decide (1 < (nms qs).count s)) ++ (A.filter fun s => !decide (s ∈ T))).map D.str)) = some (1, .lst ((srtS (wrg qs)).map D.str)) := by
      rw [gSorted_S (by omega) (by rw [List.length_append]; omega)]
      congr 4
      refine srtS_eq (List.nodup_append.mpr ⟨hT1.filter _, hA1.filter _, fun a ha b hb e => ?_⟩) fun x => ?_
      · subst e
        have h1 := (List.mem_filter.mp ha).1
        have h2 := (List.mem_filter.mp hb).2
        simp [h1] at h2
      · unfold wrg
        simp only [List.mem_append, List.mem_filter, hT2, hA2]
    rw [List.map_append] at sw
    simp -implicitDefEqProofs [hx, dS_keys, dP_keys, e1, e2, l1, l2, l3, sp, sw]
    exact hq _
end HP
set_option Elab.async false
set_option linter.all false
set_option maxRecDepth 100000
/-! B10: needed_parts -/
namespace HP
open PySem L2 Pv
def succ (ps : List Pt) (i j : Nat) : Prop := j < ps.length ∧ ∃ s, s ∈ (pAt ps i).a ∧ s ∈ (pAt ps j).t
inductive Reach (ps : List Pt) (f : Nat) : Nat → Prop where
  | base : Reach ps f f
  | step {i j : Nat} : Reach ps f i → succ ps i j → Reach ps f j
theorem reach_lt {ps : List Pt} {f i : Nat} (hf : f < ps.length) (h : Reach ps f i) : i < ps.length := by
  cases h with
  | base => exact hf
  | step _ q => exact q.1
theorem nodup_le : ∀ {n : Nat} {met : List Nat}, met.Nodup → (∀ a ∈ met, a < n) → met.length ≤ n
  | 0, [], _, _ => Nat.le_refl _
  | 0, a :: met, _, h => absurd (h a List.mem_cons_self) (Nat.not_lt_zero _)
  | n + 1, met, nd, h => by
    have h1 : (met.filter fun a => decide (a ≠ n)).length ≤ n := nodup_le (nd.filter _) fun a ha => by
      obtain ⟨h2, h3⟩ := List.mem_filter.mp ha
      have := h a h2
      have : a ≠ n := by simpa using h3
      omega
    have h4 : (met.filter fun a => decide (a = n)).length ≤ 1 := by
      have nd2 := nd.filter fun a => decide (a = n)
      have all : ∀ a ∈ met.filter (fun a => decide (a = n)), a = n := fun a ha => by simpa using (List.mem_filter.mp ha).2
      generalize met.filter (fun a => decide (a = n)) = l at *
      match l, nd2, all with
      | [], _, _ => exact Nat.zero_le _
      | [a], _, _ => exact Nat.le_refl _
      | a :: b :: l, nd2, all =>
        have e1 := all a List.mem_cons_self
        have e2 := all b (List.mem_cons_of_mem _ List.mem_cons_self)
        rw [e1, e2] at nd2
        exact absurd List.mem_cons_self (List.nodup_cons.mp nd2).1
    have e : met.length = (met.filter fun a => decide (a ≠ n)).length + (met.filter fun a => decide (a = n)).length := by
      clear nd h h1 h4
      induction met with
      | nil => rfl
      | cons a met ih =>
        by_cases q : a = n
        · rw [List.filter_cons_of_neg (by simpa using q), List.filter_cons_of_pos (by simpa using q), List.length_cons, List.length_cons, ih]; omega
        · rw [List.filter_cons_of_pos (by simpa using q), List.filter_cons_of_neg (by simpa using q), List.length_cons, List.length_cons, ih]; omega
    omega
/-- the parts below m that tell s -/
def tel (ps : List Pt) (m : Nat) (s : Str) : List Nat := (List.range m).filter fun j => decide (s ∈ (pAt ps j).t)
theorem tel_mem {ps : List Pt} {m : Nat} {s : Str} {j : Nat} : j ∈ tel ps m s ↔ j < m ∧ s ∈ (pAt ps j).t := by
  unfold tel
  rw [List.mem_filter, List.mem_range]; simp
theorem tel_len {ps : List Pt} {m : Nat} {s : Str} : (tel ps m s).length ≤ m := by
  have := List.length_filter_le (fun j => decide (s ∈ (pAt ps j).t)) (List.range m)
  unfold tel
  simpa using this
theorem tel_succ {ps : List Pt} {m : Nat} {s : Str} : tel ps (m + 1) s = tel ps m s ++ if s ∈ (pAt ps m).t then [m] else [] := by
  unfold tel
  rw [List.range_succ, List.filter_append]
  congr 1
  by_cases h : s ∈ (pAt ps m).t
  · rw [if_pos h, List.filter_cons_of_pos (by simpa using h)]; rfl
  · rw [if_neg h, List.filter_cons_of_neg (by simpa using h)]; rfl
def telP (tl : Str → List Nat) (m : Nat) (pre : List Str) (s : Str) : List Nat := tl s ++ if s ∈ pre then [m] else []
theorem setD_S {f g : Str → D} {s : Str} : ∀ {T : List Str}, T.Nodup → s ∈ T → (∀ x ∈ T, x ≠ s → g x = f x) → setD (dS T f) [.inr s] (g s) = dS T g
  | [], _, h, _ => by cases h
  | x :: T, nd, h, hg => by
    have nd' := List.nodup_cons.mp nd
    have he : dS (x :: T) f = ([.inr x], f x) :: dS T f := rfl
    have he' : dS (x :: T) g = ([.inr x], g x) :: dS T g := rfl
    rw [he, he']
    unfold setD
    by_cases e : x = s
    · subst e
      rw [if_pos rfl]
      congr 1
      unfold dS
      exact List.map_congr_left fun y hy => by rw [hg y (List.mem_cons_of_mem _ hy) fun z => nd'.1 (z ▸ hy)]
    · rw [if_neg (fun z => e (Sum.inr.inj (List.cons.inj z).1)), hg x List.mem_cons_self e]
      rcases List.mem_cons.mp h with h | h
      · exact absurd h.symm e
      · rw [setD_S nd'.2 h fun y hy => hg y (List.mem_cons_of_mem _ hy)]
theorem setApp_S {F G : Str → List D} {T : List Str} {s : Str} {d : D} (nd : T.Nodup) (h0 : s ∉ T → F s = []) (hG : ∀ x ∈ T, x ≠ s → G x = F x) (hs : G s = F s ++ [d]) (hl : T.length < 1000000) (hF : (F s).length < 1000000) :
    setAppD (dS T fun x => .lst (F x)) [.inr s] d = some (dS (if s ∈ T then T else T ++ [s]) fun x => .lst (G x)) := by
  unfold setAppD
  have hlen : (dS T fun x => D.lst (F x)).length < big := by unfold dS; simpa [big] using hl
  rw [if_pos hlen, valD_S]
  by_cases m : s ∈ T
  · rw [if_pos m, if_pos m]
    show (if (F s).length < big then some (setD _ [.inr s] (.lst (F s ++ [d]))) else none) = _
    rw [if_pos (by simpa [big] using hF), ← hs]
    rw [setD_S (f := fun x => D.lst (F x)) (g := fun x => D.lst (G x)) nd m fun x hx hne => by rw [hG x hx hne]]
  · rw [if_neg m, if_neg m]
    show some _ = some _
    congr 1
    unfold dS
    rw [List.map_append]
    congr 1
    · exact List.map_congr_left fun x hx => by
        show ([Sum.inr x], D.lst (F x)) = ([Sum.inr x], D.lst (G x))
        rw [hG x hx fun e => m (e ▸ hx)]
    · show [([Sum.inr s], D.lst [d])] = [([Sum.inr s], D.lst (G s))]
      rw [hs, h0 m]; rfl
theorem wp_setApp {i m : Nat} {B : Fe} {ρ : Pv.Env} {Q : Fl → Pv.Env → Prop} {kvs kvs' : List (List Key × D)} {s : Str} {d : D} {l : Nat} (h1 : ρ[i]?.join = some (2, .dct false kvs)) (h2 : val B ρ = some (l, .str s)) (h3 : ρ[m]?.join = some (0, d)) (h4 : setAppD kvs [.inr s] d = some kvs')
    (q : Q .nx (ρ.set i (some (2, .dct false kvs')))) : Wp (sSetApp i B m ρ) Q := by
  have e : sSetApp i B m ρ = some (.nx, ρ.set i (some (2, .dct false kvs'))) := by
    unfold sSetApp
    rw [h1]
    show (val B ρ).bind _ = _
    rw [h2]
    show ((ρ[m]?).join).bind _ = _
    rw [h3]
    show (if (0 : Nat) = 0 then (setAppD kvs [.inr s] d).map _ else none) = _
    rw [if_pos rfl, h4]; rfl
  rw [e, wp_some]; exact q
theorem putD_N {T : List Nat} {j : Nat} (h : j ∉ T) : putD (dN T fun _ => D.bl true) [.inl (j : Int)] (.bl true) = dN (T ++ [j]) fun _ => .bl true := by
  unfold putD
  rw [valD_N, if_neg h]
  simp only [Option.isSome_none, Bool.false_eq_true, if_false]
  unfold dN
  rw [List.map_append]; rfl
theorem map_ptD (ps : List Pt) : ps.map ptD = (List.range ps.length).map fun i => ptD (pAt ps i) := by
  refine List.ext_getElem (by simp) fun i h1 h2 => ?_
  have h3 : i < ps.length := by simpa using h1
  simp [pAt, h3]
theorem needed_run (ps : List Pt) (f : Nat) (hps : ∀ p ∈ ps, PtOk p) (hl : ps.length ≤ 6) (hf : f < ps.length) (R : List Nat) (hR : ∀ i, i ∈ R ↔ Reach ps f i) :
    K38.m_needed_parts [.tup (ps.map ptD), .int (f : Int)] = some (0, .tup ((srtN R).map IN)) := by
  have ok : ∀ i, i < ps.length → PtOk (pAt ps i) := fun i hi => by rw [← pAt_get hi]; exact hps _ (List.getElem_mem hi)
  refine def_of0 rfl (noBoxs_all fun d hd => by obtain ⟨o, _, rfl⟩ := List.mem_map.mp hd; rfl) fun Q hQ => ?_
  unfold K38.b_needed_parts
  have en : enumF 0 (ps.map ptD) = (List.range ps.length).map fun i : Nat => D.tup [.int (i : Int), ptD (pAt ps i)] := by rw [map_ptD, enum_tab]
  obtain ⟨P, hP⟩ : ∃ P, P = ps.map ptD := ⟨_, rfl⟩
  rw [← hP] at en ⊢
  simp [en]
  refine wp_idx ps.length (fun m ρ => ∃ (T : List Str) (x3 x4 x5 : Option W), T.Nodup ∧ (∀ s, (∃ j, j < m ∧ s ∈ (pAt ps j).t) → s ∈ T) ∧ T.length ≤ 2 * m ∧ (∀ s, s ∉ T → tel ps m s = []) ∧
    ρ = [some (0, .tup P), some (0, .int (f : Int)), some (2, .dct false (dS T fun s => .lst ((tel ps m s).map IN))), x3, x4, x5, none, none]) rfl ⟨[], none, none, none, List.nodup_nil, fun s ⟨j, hj, _⟩ => by omega, by simp, fun s _ => by simp [tel], by simp [dS]⟩ ?_ ?_
  · rintro m ρ hm ⟨T, x3, x4, x5, hT1, hT2, hT3, hT4, rfl⟩
    have q := ok m hm
    have qlt := q.lt
    have qnd := q.nd
    have ts : ∀ s, tel ps (m + 1) s = tel ps m s ++ if s ∈ (pAt ps m).t then [m] else [] := fun s => tel_succ
    have t2 : ∀ s, (∃ j, j < m + 1 ∧ s ∈ (pAt ps j).t) → (∃ j, j < m ∧ s ∈ (pAt ps j).t) ∨ s ∈ (pAt ps m).t := fun s ⟨j, h1, h2⟩ => by
      by_cases e : j = m
      · subst e; exact .inr h2
      · exact .inl ⟨j, by omega, h2⟩
    have tl : ∀ s, (tel ps m s).length ≤ m := fun s => tel_len
    rw [bindP_tp]
    simp only [ts]
    generalize pAt ps m = p at *
    simp -implicitDefEqProofs [ptD]
    refine wp_for (inj := D.str) p.t (fun pre ρ => ∃ (T : List Str) (x5 : Option W), T.Nodup ∧ (∀ s, (∃ j, j < m ∧ s ∈ (pAt ps j).t) ∨ s ∈ pre → s ∈ T) ∧ T.length ≤ 2 * m + pre.length ∧ (∀ s, s ∉ T → tel ps m s = []) ∧
      ρ = [some (0, .tup P), some (0, .int (f : Int)), some (2, .dct false (dS T fun s => .lst ((telP (tel ps m) m pre s).map IN))), some (0, .int (m : Int)), some (0, .tup [.tup (p.t.map D.str), .tup (p.a.map D.str), .int (p.z : Int)]), x5, none, none]) rfl
      ⟨T, x5, hT1, fun s h => h.elim (hT2 s) (fun z => by cases z), by simpa using hT3, hT4, by simp [telP]⟩ ?_ ?_
    · rintro pre s post ρ hp ⟨T, x5, hT1, hT2, hT3, hT4, rfl⟩
      have hns : s ∉ pre := fun h => by
        rw [hp] at qnd
        exact (List.nodup_append.mp qnd).2.2 s h s List.mem_cons_self rfl
      have pl : pre.length < p.t.length := by rw [hp]; simp
      simp -implicitDefEqProofs []
      refine wp_setApp (l := 0) (s := s) (d := .int (m : Int)) rfl (by simp) rfl (setApp_S (F := fun s => (telP (tel ps m) m pre s).map IN) (G := fun x => (telP (tel ps m) m (pre ++ [s]) x).map IN) hT1 (fun h => ?_) (fun x hx hne => ?_) ?_ ?_ ?_) ?_
      · have h1 : s ∉ pre := hns
        simp [telP, hT4 s h, h1]
      · by_cases e : x ∈ pre <;> simp [telP, e, hne]
      · simp [telP, hns]
      · omega
      · have := tl s
        simp [telP, hns]; omega
      · simp only [List.set_cons_succ, List.set_cons_zero, turnQ_nx]
        refine ⟨_, snoc_nd hT1, fun x h => ?_, ?_, fun x h => ?_, _, rfl⟩
        · split
          · rename_i hs
            rcases h with h | h
            · exact hT2 x (.inl h)
            · rcases h with h | h
              · exact hT2 x (.inr h)
              · rw [h]; exact hs
          · rcases h with h | h
            · exact List.mem_append_left _ (hT2 x (.inl h))
            · rcases h with h | h
              · exact List.mem_append_left _ (hT2 x (.inr h))
              · rw [h]; simp
        · have h9 : (if s ∈ T then T else T ++ [s]).length ≤ T.length + 1 := by split <;> simp
          omega
        · refine hT4 x fun hx => h ?_
          split
          · exact hx
          · exact List.mem_append_left _ hx
    · rintro ρ ⟨T, x5, hT1, hT2, hT3, hT4, rfl⟩
      simp only [turnQ_nx]
      exact ⟨T, hT1, fun s j h1 h2 => hT2 s (t2 s ⟨j, h1, h2⟩), by omega, fun s hs => ⟨hT4 s hs, fun h => hs (hT2 s (.inr h))⟩, some (0, .int (m : Int)), some (0, .tup [.tup (p.t.map D.str), .tup (p.a.map D.str), .int (p.z : Int)]), x5, by simp [telP]⟩
  · rintro ρ ⟨T, x3, x4, x5, hT1, hT2, hT3, hT4, rfl⟩
    obtain ⟨n, hn⟩ : ∃ n, n = ps.length := ⟨_, rfl⟩
    obtain ⟨dd, hdd⟩ : ∃ dd, dd = dS T fun s => D.lst ((tel ps ps.length s).map IN) := ⟨_, rfl⟩
    have hsq : ∀ s, ∃ b, seqD ((valD dd [.inr s]).getD (.tup [])) = some (b, (tel ps n s).map IN) := fun s => by
      rw [hdd, valD_S, hn]
      by_cases e : s ∈ T
      · rw [if_pos e]; exact ⟨true, rfl⟩
      · rw [if_neg e, hT4 s e]; exact ⟨false, rfl⟩
    rw [← hdd]
    have hd1 : ∀ ρ : Pv.Env, ρ[1]?.join = some (0, D.int (f : Int)) → pDisp1 (pBv 1) (pC (.bl true)) ρ = some (.v 1 (.dct false (dN [f] fun _ => .bl true))) := fun ρ h => disp1_i (k := 0) (j := 0) (by simp [h]) rfl
    have hd2 : ∀ a b c d e : Option W, pDisp1 (pBv 1) (pC (.bl true)) [a, some (0, D.int (f : Int)), b, c, d, e, none, none] = some (.v 1 (.dct false (dN [f] fun _ => .bl true))) := fun a b c d e => hd1 _ rfl
    have hPl : P.length = n := by rw [hP, hn]; simp
    have hPi : ∀ i, i < n → P[i]? = some (ptD (pAt ps i)) := fun i hi => by
      rw [hP, List.getElem?_map, List.getElem?_eq_getElem (by omega), pAt_get (by omega)]; rfl
    simp -implicitDefEqProofs [hd2]
    refine wp_while (m := 2 * (n - 1) + 1) (fun mm ρ => ∃ (F td : List Nat) (x3 x4 x5 : Option W), F.Nodup ∧ (∀ i ∈ F, Reach ps f i) ∧ f ∈ F ∧ (∀ i ∈ td, i ∈ F) ∧ (∀ i ∈ F, i ∉ td → ∀ j, succ ps i j → j ∈ F) ∧ mm = 2 * (n - F.length) + td.length ∧ mm ≤ 20 ∧
      ρ = [some (0, .tup P), some (0, .int (f : Int)), some (0, .dct false dd), x3, x4, x5, some (1, .dct false (dN F fun _ => .bl true)), some (1, .lst (td.map IN))]) ⟨[f], [f], x3, x4, x5, by simp, fun i hi => by rw [List.mem_singleton.mp hi]; exact .base, by simp, fun i hi => hi, fun i hi h => absurd hi h, by simp, by omega, by simp⟩ (by omega) ?_
    rintro mm ρ ⟨F, td, x3, x4, x5, hF1, hF2, hF3, hF4, hF5, hmm, hm20, rfl⟩
    have hFl : F.length ≤ n := nodup_le hF1 fun i hi => by rw [hn]; exact reach_lt hf (hF2 i hi)
    rcases List.eq_nil_or_concat td with rfl | ⟨td', i, rfl⟩
    · simp -implicitDefEqProofs [dN_keys]
      have hFm : F.mergeSort leN = srtN R := srtN_eq hF1 fun i => by
        rw [hR]
        refine ⟨hF2 i, fun h => ?_⟩
        induction h with
        | base => exact hF3
        | step _ q ih => exact hF5 _ ih (by simp) _ q
      have hs : sortD (F.map IN) = some (1, .lst ((srtN R).map IN)) := by rw [sortD_N (by omega), hFm]
      simp -implicitDefEqProofs [hs]
      exact hQ _
    · have hiF := hF4 i (by simp)
      have hi : i < n := by rw [hn]; exact reach_lt hf (hF2 i hiF)
      have hpi := hPi i hi
      have he : (List.map IN td' ++ [D.int (i : Int)]).isEmpty = false := by cases td' <;> rfl
      simp -implicitDefEqProofs [he]
      refine wp_popIx (d := .int (i : Int)) (ds := td'.map IN) (u := (0, .tup P)) (w := (0, ptD (pAt ps i))) rfl (by simp) (by decide) rfl (by simp [hpi]) ?_
      obtain ⟨p, hp⟩ : ∃ p, p = pAt ps i := ⟨_, rfl⟩
      rw [← hp]
      obtain ⟨M, hM⟩ : ∃ M, M = 2 * (n - F.length) + td'.length := ⟨_, rfl⟩
      have hM20 : M < 20 ∧ M < mm := by simp at hmm; omega
      have hp1 : ∀ k l : Nat, gIx (k, ptD p) (l, .int 1) = some (0, .tup (p.a.map D.str)) := fun k l => by unfold ptD; simp
      simp -implicitDefEqProofs [hp1]
      refine wp_for (inj := D.str) p.a (fun pre ρ => ∃ (F td : List Nat) (x3 x5 : Option W), F.Nodup ∧ (∀ i ∈ F, Reach ps f i) ∧ f ∈ F ∧ i ∈ F ∧ (∀ i ∈ td, i ∈ F) ∧ (∀ k ∈ F, k ∉ td → k ≠ i → ∀ j, succ ps k j → j ∈ F) ∧ (∀ s ∈ pre, ∀ j, j < n → s ∈ (pAt ps j).t → j ∈ F) ∧ 2 * (n - F.length) + td.length ≤ M ∧
        ρ = [some (0, .tup P), some (0, .int (f : Int)), some (0, .dct false dd), x3, some (0, ptD p), x5, some (1, .dct false (dN F fun _ => .bl true)), some (1, .lst (td.map IN))]) rfl
        ⟨F, td', x3, x5, hF1, hF2, hF3, hiF, fun j hj => hF4 j (by simp [hj]), fun k hk h1 h2 => hF5 k hk (by simp [h1, h2]), (fun s h => by cases h), by omega, rfl⟩ ?_ ?_
      · rintro pre s post ρ hpp ⟨F, td, x3, x5, hF1, hF2, hF3, hiF, hF4, hF5, hF6, hF7, rfl⟩
        obtain ⟨b, hb⟩ := hsq s
        have hsa : s ∈ (pAt ps i).a := by rw [← hp, hpp]; simp
        simp -implicitDefEqProofs [hb]
        refine wp_for (inj := IN) (tel ps n s) (fun pre2 ρ => ∃ (F td : List Nat) (x3 : Option W), F.Nodup ∧ (∀ i ∈ F, Reach ps f i) ∧ f ∈ F ∧ i ∈ F ∧ (∀ i ∈ td, i ∈ F) ∧ (∀ k ∈ F, k ∉ td → k ≠ i → ∀ j, succ ps k j → j ∈ F) ∧ (∀ s ∈ pre, ∀ j, j < n → s ∈ (pAt ps j).t → j ∈ F) ∧ (∀ j ∈ pre2, j ∈ F) ∧ 2 * (n - F.length) + td.length ≤ M ∧
          ρ = [some (0, .tup P), some (0, .int (f : Int)), some (0, .dct false dd), x3, some (0, ptD p), some (0, .str s), some (1, .dct false (dN F fun _ => .bl true)), some (1, .lst (td.map IN))]) rfl
          ⟨F, td, x3, hF1, hF2, hF3, hiF, hF4, hF5, hF6, (fun j h => by cases h), hF7, rfl⟩ ?_ ?_
        · rintro pre2 j post2 ρ hp2 ⟨F, td, x3, hF1, hF2, hF3, hiF, hF4, hF5, hF6, hF8, hF7, rfl⟩
          have hj := tel_mem.mp (show j ∈ tel ps n s by rw [hp2]; simp)
          have hv := valD_N (f := fun _ => D.bl true) (s := j) F
          by_cases e : j ∈ F
          · rw [if_pos e] at hv
            simp -implicitDefEqProofs [hv]
            exact ⟨F, hF1, hF2, hF3, hiF, td, hF4, hF5, hF6, fun k hk => hk.elim (hF8 k) (fun q => q ▸ e), hF7, rfl, rfl⟩
          · rw [if_neg e] at hv
            have hr : Reach ps f j := (hF2 i hiF).step ⟨by rw [← hn]; exact hj.1, s, hsa, hj.2⟩
            have nd : (F ++ [j]).Nodup := List.nodup_append.mpr ⟨hF1, by simp, fun a ha b hb z => by rw [List.mem_singleton.mp hb] at z; exact e (z ▸ ha)⟩
            have hFl : (F ++ [j]).length ≤ n := nodup_le nd fun k hk => by
              rw [hn]
              rcases List.mem_append.mp hk with hk | hk
              · exact reach_lt hf (hF2 k hk)
              · rw [List.mem_singleton.mp hk]; exact reach_lt hf hr
            rw [List.length_append, List.length_singleton] at hFl
            have hlen : (dN F fun _ => D.bl true).length < 1000000 := by unfold dN; simp; omega
            have htl : td.length < 1000000 := by omega
            have hput := putD_N e
            simp -implicitDefEqProofs [hv, Pv.big, hlen, hput, htl]
            refine ⟨F ++ [j], nd, fun k hk => ?_, by simp [hF3], by simp [hiF], td ++ [j], fun k hk => ?_, fun k hk h1 h2 l hs => ?_, fun s' hs' l hl h => by simp [hF6 s' hs' l hl h], fun k hk => ?_, ?_, rfl, by simp⟩
            · rcases List.mem_append.mp hk with hk | hk
              · exact hF2 k hk
              · rw [List.mem_singleton.mp hk]; exact hr
            · rcases List.mem_append.mp hk with hk | hk
              · simp [hF4 k hk]
              · simp [List.mem_singleton.mp hk]
            · have h3 : k ∉ td ∧ k ≠ j := by simpa using h1
              rcases List.mem_append.mp hk with hk | hk
              · simp [hF5 k hk h3.1 h2 l hs]
              · exact absurd (List.mem_singleton.mp hk) h3.2
            · rcases hk with hk | hk
              · simp [hF8 k hk]
              · simp [hk]
            · simp; omega
        · rintro ρ ⟨F, td, x3, hF1, hF2, hF3, hiF, hF4, hF5, hF6, hF8, hF7, rfl⟩
          simp only [turnQ_nx]
          refine ⟨F, hF1, hF2, hF3, hiF, td, hF4, hF5, fun s' hs' l hl h => ?_, hF7, _, _, rfl⟩
          rcases hs' with hs' | hs'
          · exact hF6 s' hs' l hl h
          · subst hs'
            exact hF8 l (tel_mem.mpr ⟨hl, h⟩)
      · rintro ρ ⟨F, td, x3, x5, hF1, hF2, hF3, hiF, hF4, hF5, hF6, hF7, rfl⟩
        simp only [turnQ_nx]
        refine ⟨2 * (n - F.length) + td.length, by omega, F, hF1, hF2, hF3, td, hF4, fun k hk h j hs => ?_, rfl, by omega, _, _, _, rfl⟩
        by_cases ek : k = i
        · subst ek
          obtain ⟨h1, s, h2, h3⟩ := hs
          exact hF6 s (by rw [hp]; exact h2) j (by rw [hn]; exact h1) h3
        · exact hF5 k hk h ek j hs
end HP
set_option Elab.async false
set_option linter.all false
set_option maxRecDepth 100000
/-! B11: the law of the links: the parts, their order, what is collected -/
namespace HP
open PySem L2 Pv
theorem let6 (i : Nat) (h : i < 6) : ∃ s : Str, PyData.strOk s = true ∧ ∀ k l : Nat, gIx (k, .str "abcdef") (l, .int (i : Int)) = some (0, .str s) := by
  match i, h with
  | 0, _ => exact ⟨⟨#[97]⟩, by simp [PyData.strOk], fun k l => rfl⟩
  | 1, _ => exact ⟨⟨#[98]⟩, by simp [PyData.strOk], fun k l => rfl⟩
  | 2, _ => exact ⟨⟨#[99]⟩, by simp [PyData.strOk], fun k l => rfl⟩
  | 3, _ => exact ⟨⟨#[100]⟩, by simp [PyData.strOk], fun k l => rfl⟩
  | 4, _ => exact ⟨⟨#[101]⟩, by simp [PyData.strOk], fun k l => rfl⟩
  | 5, _ => exact ⟨⟨#[102]⟩, by simp [PyData.strOk], fun k l => rfl⟩
theorem let7 (i : Nat) (h : i < 7) : ∃ s : Str, PyData.strOk s = true ∧ ∀ k l : Nat, gIx (k, .str "abcdefg") (l, .int (i : Int)) = some (0, .str s) := by
  match i, h with
  | 0, _ => exact ⟨⟨#[97]⟩, by simp [PyData.strOk], fun k l => rfl⟩
  | 1, _ => exact ⟨⟨#[98]⟩, by simp [PyData.strOk], fun k l => rfl⟩
  | 2, _ => exact ⟨⟨#[99]⟩, by simp [PyData.strOk], fun k l => rfl⟩
  | 3, _ => exact ⟨⟨#[100]⟩, by simp [PyData.strOk], fun k l => rfl⟩
  | 4, _ => exact ⟨⟨#[101]⟩, by simp [PyData.strOk], fun k l => rfl⟩
  | 5, _ => exact ⟨⟨#[102]⟩, by simp [PyData.strOk], fun k l => rfl⟩
  | 6, _ => exact ⟨⟨#[103]⟩, by simp [PyData.strOk], fun k l => rfl⟩
theorem pt_ok {tl al : List Str} {z : Nat} (h1 : tl.length ≤ 2) (h2 : al.length ≤ 2) (h3 : ∀ s ∈ tl, PyData.strOk s = true) (h4 : ∀ s ∈ al, PyData.strOk s = true) (z1 : 0 < z) (z9 : z ≤ 9) : PtOk ⟨srtS tl, srtS al, z⟩ :=
  ⟨srtS_nodup _, Nat.le_trans (srtS_len _) h1, Nat.le_trans (srtS_len _) h2, z1, z9, fun s hs => h3 s (srtS_mem.mp hs), fun s hs => h4 s (srtS_mem.mp hs)⟩
theorem begs_snoc : ∀ (zs : List Nat) (z o : Nat), begs o (zs ++ [z]) = begs o zs ++ [some (o + zs.sum)]
  | [], z, o => by simp [begs]
  | y :: zs, z, o => by
    rw [List.cons_append, begs, begs_snoc zs z, begs, List.sum_cons, Nat.add_assoc]; rfl
theorem begs_len : ∀ (zs : List Nat) (o : Nat), (begs o zs).length = zs.length
  | [], _ => rfl
  | z :: zs, o => by rw [begs, List.length_cons, List.length_cons, begs_len]
theorem law_links_run (r : Nat → Nat) : K38.m_law_links [.lst ((List.range 54).map fun i => IN (r i))] = some (0, .bl true) := by
  refine def_of0 rfl rfl fun Q hQ => ?_
  unfold K38.b_law_links
  obtain ⟨R, hR⟩ : ∃ R, R = (List.range 54).map fun i => IN (r i) := ⟨_, rfl⟩
  have hx : ∀ (i : Nat), i < 54 → R[i]? = some (.int (r i : Int)) := fun i hi => by
    rw [hR]
    simp [hi]
  rw [← hR]
  clear hR
  obtain ⟨cnt, hcnt⟩ : ∃ cnt : Nat, cnt = 1 + r 29 % 6 := ⟨_, rfl⟩
  have c1 : (1 : Int) + (r 29 : Int) % 6 = (cnt : Int) := by omega
  have hc6 : cnt ≤ 6 := by omega
  have hc0 : 0 < cnt := by omega
  have x29 := hx 29 (by omega)
  have x42 := hx 42 (by omega)
  have x49 := hx 49 (by omega)
  have x50 := hx 50 (by omega)
  have hcb : cnt ≤ 1000000000 := by omega
  have hcm : cnt ≤ 1000000 := by omega
  simp -implicitDefEqProofs [x29, c1, hcb]
  refine wp_idx cnt (fun m ρ => ∃ (ps : List Pt) (x3 x4 x5 x6 x7 : Option W), ps.length = m ∧ (∀ p ∈ ps, PtOk p) ∧
    ρ = [some (0, .lst R), some (1, .lst (ps.map ptD)), some (0, .int (cnt : Int)), x3, x4, x5, x6, x7, none, none, none, none, none, none, none, none, none, none, none, none, none, none, none, none, none, none, none]) rfl ⟨[], none, none, none, none, none, rfl, (fun p hp => by cases hp), by simp⟩ ?_ ?_
  · rintro m ρ hm ⟨ps, x3, x4, x5, x6, x7, hl, hok, rfl⟩
    have h30 : (30 : Int) + (m : Int) = ((30 + m : Nat) : Int) := by omega
    have h36 : (36 : Int) + (m : Int) = ((36 + m : Nat) : Int) := by omega
    have x30 := hx (30 + m) (by omega)
    have x36 := hx (36 + m) (by omega)
    generalize r (30 + m) = c at x30
    generalize r (36 + m) = o at x36
    obtain ⟨s1, k1, g1⟩ := let6 m (by omega)
    obtain ⟨s2, k2, g2⟩ := let6 (c / 7 % 6) (by omega)
    have hb2 : r 42 % 2 ≤ 1 := by omega
    have hi1 : o % (cnt + r 42 % 2) < 7 := Nat.lt_of_lt_of_le (Nat.mod_lt _ (by omega)) (by omega)
    have hi2 : o / 7 % cnt < 7 := Nat.lt_of_lt_of_le (Nat.mod_lt _ hc0) (by omega)
    obtain ⟨a1, k3, g3⟩ := let7 _ hi1
    obtain ⟨a2, k4, g4⟩ := let7 _ hi2
    have e2 : (c : Int) / 7 % 6 = ((c / 7 % 6 : Nat) : Int) := by simp
    have e3 : (o : Int) % ((cnt : Int) + (r 42 : Int) % 2) = ((o % (cnt + r 42 % 2) : Nat) : Int) := by simp
    have e4 : (o : Int) / 7 % (cnt : Int) = ((o / 7 % cnt : Nat) : Int) := by simp
    have e5 : (o : Int) / 49 % 3 = ((o / 49 % 3 : Nat) : Int) := by simp
    have e6 : (1 : Int) + (c : Int) / 42 % 9 = ((1 + c / 42 % 9 : Nat) : Int) := by simp
    have p1 : (0 : Int) < (cnt : Int) + (r 42 : Int) % 2 := by omega
    have p2 : (0 : Int) < (cnt : Int) := by omega
    obtain ⟨al, hal⟩ : ∃ al, al = [a1, a2].take (o / 49 % 3) := ⟨_, rfl⟩
    have hall : al.length ≤ 2 := by
      rw [hal, List.length_take]
      exact Nat.min_le_right _ _
    have ham : ∀ s ∈ al, PyData.strOk s = true := fun s hs => by
      rw [hal] at hs
      rcases List.mem_cons.mp (List.mem_of_mem_take hs) with rfl | hs
      · exact k3
      · rw [List.mem_singleton.mp hs]; exact k4
    have hcut : cutL [D.str a1, D.str a2] none (some ((o / 49 % 3 : Nat) : Int)) = al.map D.str := by
      rw [cut_take, hal, List.map_take]; rfl
    have sa := set_S (k := 1) (xs := al) (by omega) (by omega)
    have hz1 : 0 < 1 + c / 42 % 9 := by omega
    have hz9 : 1 + c / 42 % 9 ≤ 9 := by omega
    generalize 1 + c / 42 % 9 = z at *
    generalize c / 7 % 6 = i2 at *
    generalize o % (cnt + r 42 % 2) = i3 at *
    generalize o / 7 % cnt = i4 at *
    generalize o / 49 % 3 = i5 at *
    have hps : ps.length < 1000000 := by omega
    by_cases hc : (c : Int) % 7 = 0
    · have st := set_S (k := 1) (xs := [s1, s2]) (by omega) (by simp)
      simp only [List.map_cons, List.map_nil] at st
      simp -implicitDefEqProofs [h30, h36, x30, x36, x42, e2, e3, e4, e5, e6, g1, g2, g3, g4, hc, p1, hc0, hcut, sa, st, Pv.big, hps, -Int.natCast_add, -Int.natCast_emod, -Int.natCast_ediv]
      refine ⟨ps ++ [⟨srtS [s1, s2], srtS al, z⟩], by simp [hl], fun p hp => ?_, by simp [ptD]⟩
      rcases List.mem_append.mp hp with hp | hp
      · exact hok p hp
      · rw [List.mem_singleton.mp hp]
        exact pt_ok (by simp) hall (fun s hs => by
          rcases List.mem_cons.mp hs with rfl | hs
          · exact k1
          · rw [List.mem_singleton.mp hs]; exact k2) ham hz1 hz9
    · have st := set_S (k := 1) (xs := [s1]) (by omega) (by simp)
      simp only [List.map_cons, List.map_nil] at st
      simp -implicitDefEqProofs [h30, h36, x30, x36, x42, e2, e3, e4, e5, e6, g1, g2, g3, g4, hc, p1, hc0, hcut, sa, st, Pv.big, hps, -Int.natCast_add, -Int.natCast_emod, -Int.natCast_ediv]
      refine ⟨ps ++ [⟨srtS [s1], srtS al, z⟩], by simp [hl], fun p hp => ?_, by simp [ptD]⟩
      rcases List.mem_append.mp hp with hp | hp
      · exact hok p hp
      · rw [List.mem_singleton.mp hp]
        exact pt_ok (by simp) hall (fun s hs => by rw [List.mem_singleton.mp hs]; exact k1) ham hz1 hz9
  · rintro ρ ⟨ps, x3, x4, x5, x6, x7, hl, hok, rfl⟩
    simp -implicitDefEqProofs [hcb, hcm]
    refine wp_idx cnt (fun m ρ => ∃ (od lf : List Nat) (x3 x10 : Option W), od.length = m ∧ lf.length = cnt - m ∧ (∀ i ∈ od, i < cnt) ∧ (∀ i ∈ lf, i < cnt) ∧
      ρ = [some (0, .lst R), some (1, .lst (ps.map ptD)), some (0, .int (cnt : Int)), x3, x4, x5, x6, x7, some (1, .lst (od.map IN)), some (1, .lst (lf.map IN)), x10, none, none, none, none, none, none, none, none, none, none, none, none, none, none, none, none]) rfl
      ⟨[], List.range cnt, x3, none, rfl, by simp, (fun i hi => by cases hi), (fun i hi => List.mem_range.mp hi), by simp⟩ ?_ ?_
    · rintro m ρ hm ⟨od, lf, x3', x10, ho1, ho2, ho3, ho4, rfl⟩
      have h43 : (43 : Int) + (m : Int) = ((43 + m : Nat) : Int) := by omega
      have x43 := hx (43 + m) (by omega)
      generalize r (43 + m) = c at x43
      have hl0 : 0 < lf.length := by omega
      have hpl : c % lf.length < lf.length := Nat.mod_lt _ hl0
      have e1 : (c : Int) % (lf.length : Int) = ((c % lf.length : Nat) : Int) := by simp
      generalize c % lf.length = pl at *
      have hg : lf[pl]? = some lf[pl] := List.getElem?_eq_getElem hpl
      have hgm := ho4 _ (List.getElem_mem hpl)
      generalize lf[pl] = v at *
      have hp1 : (pl : Int) + 1 = ((pl + 1 : Nat) : Int) := by omega
      obtain ⟨lf', hlf'⟩ : ∃ lf', lf' = lf.take pl ++ lf.drop (pl + 1) := ⟨_, rfl⟩
      have hcut : List.take pl (List.map IN lf) ++ List.drop (pl + 1) (List.map IN lf) = lf'.map IN := by rw [hlf']; simp
      have hll : lf'.length = cnt - (m + 1) := by rw [hlf']; simp; omega
      have hlm : ∀ i ∈ lf', i < cnt := fun i hi => by
        rw [hlf'] at hi
        rcases List.mem_append.mp hi with hi | hi
        · exact ho4 i (List.mem_of_mem_take hi)
        · exact ho4 i (List.mem_of_mem_drop hi)
      have hod : od.length < 1000000 := by omega
      have b1 : min pl lf.length + (lf.length - (pl + 1)) ≤ 1000000 := by omega
      simp -implicitDefEqProofs [h43, x43, e1, hl0, hg, hp1, cut_take, cut_drop, hcut, hod, b1, Pv.big, -Int.natCast_add, -Int.natCast_emod]
      exact ⟨od ++ [v], by simp [ho1], lf', hll, fun i hi => by
        rcases List.mem_append.mp hi with hi | hi
        · exact ho3 i hi
        · rw [List.mem_singleton.mp hi]; exact hgm, hlm, by simp, rfl⟩
    · rintro ρ ⟨od, lf, x3', x10, ho1, ho2, ho3, ho4, rfl⟩
      have ok : ∀ i, i < cnt → PtOk (pAt ps i) := fun i hi => by rw [← pAt_get (by omega)]; exact hok _ (List.getElem_mem (by omega))
      simp -implicitDefEqProofs []
      refine wp_for (inj := IN) od (fun pre ρ => ∃ (x16 : Option W),
        ρ = [some (0, .lst R), some (1, .lst (ps.map ptD)), some (0, .int (cnt : Int)), x3', x4, x5, x6, x7, some (0, .lst (od.map IN)), some (1, .lst (lf.map IN)), x10, some (1, .lst ((nms (pre.map (pAt ps))).map D.str)), some (1, .lst ((asks (pre.map (pAt ps))).map D.str)),
          some (1, .lst ((prs 0 (pre.map (pAt ps))).map prT)), some (0, .int (szs (pre.map (pAt ps)) : Int)), some (1, .lst ((begs 0 ((pre.map (pAt ps)).map Pt.z)).map od')), x16, none, none, none, none, none, none, none, none, none, none] ∧ lvl0 (some x16) = true) rfl ⟨none, by simp [nms, asks, prs, szs, begs], rfl⟩ ?_ ?_
      · rintro pre i post ρ hp ⟨x16, rfl, hx16⟩
        have hi : i < cnt := ho3 i (by rw [hp]; simp)
        have hil : i < ps.length := by omega
        have hpre : ∀ q ∈ pre.map (pAt ps), PtOk q := fun q hq => by
          obtain ⟨j, hj, rfl⟩ := List.mem_map.mp hq
          exact ok j (ho3 j (by rw [hp]; simp [hj]))
        have hpl : pre.length < 6 := by
          have := congrArg List.length hp
          simp at this; omega
        have nl := nms_len hpre
        have al := asks_len hpre
        have bl := begs_len ((pre.map (pAt ps)).map Pt.z) 0
        rw [List.length_map] at nl al
        rw [List.length_map, List.length_map] at bl
        have q := ok i hi
        have hget := pAt_get hil
        rw [List.map_append, List.map_cons, List.map_nil, List.map_append, List.map_cons, List.map_nil]
        have hsz : szs (pre.map (pAt ps)) = ((pre.map (pAt ps)).map Pt.z).sum := rfl
        rw [prs_snoc, nms_snoc, asks_snoc, szs_snoc, begs_snoc, ← hsz]
        have pl := prs_len (qs := pre.map (pAt ps)) (o := 0)
        generalize pre.map (pAt ps) = qs at *
        generalize pAt ps i = p at *
        have qlt := q.lt
        have qla := q.la
        generalize begs 0 (qs.map Pt.z) = bg at *
        have i0 : ∀ k l : Nat, gIx (k, ptD p) (l, .int 0) = some (0, .tup (p.t.map D.str)) := fun k l => by unfold ptD; simp
        have i1 : ∀ k l : Nat, gIx (k, ptD p) (l, .int 1) = some (0, .tup (p.a.map D.str)) := fun k l => by unfold ptD; simp
        have i2 : ∀ k l : Nat, gIx (k, ptD p) (l, .int 2) = some (0, .int (p.z : Int)) := fun k l => by unfold ptD; simp
        have ec : ∀ ρ : Pv.Env, 25 < ρ.length → ρ[14]? = some (some (0, .int (szs qs : Int))) → compL (.nm 25) bYes (pTup (aCons (pVar 25) (aCons (pVar 14) aNil))) 0 ρ (p.t.map D.str) = some ((p.t.map fun s => (s, 0 + szs qs)).map prT) := fun ρ h1 h2 => by
          rw [List.map_map]
          refine comp_map (fun s : Str => prT (s, 0 + szs qs)) fun s hs => ?_
          simp [h1, h2, prT]
        have b1 : (nms qs).length + p.t.length ≤ 1000000 := by omega
        have b2 : (asks qs).length + p.a.length ≤ 1000000 := by omega
        have b3 : (prs 0 qs).length + p.t.length ≤ 1000000 := by omega
        have b4 : bg.length < 1000000 := by omega
        have b5 : p.t.length ≤ 1000000 := by omega
        simp -implicitDefEqProofs [hil, hget, i0, i1, i2, ec, b1, b2, b3, b4, b5, Pv.big, od', -List.map_map]
      · rintro ρ ⟨x16, rfl, hx16⟩
        obtain ⟨qs, hqs⟩ : ∃ qs, qs = od.map (pAt ps) := ⟨_, rfl⟩
        have lk := linked_run ps od hok (by omega) (fun i hi => by have := ho3 i hi; omega) (by omega)
        rw [← hqs] at lk ⊢
        have hqok : ∀ q ∈ qs, PtOk q := fun q hq => by
          rw [hqs] at hq
          obtain ⟨j, hj, rfl⟩ := List.mem_map.mp hq
          exact ok j (ho3 j hj)
        have hql : qs.length = cnt := by rw [hqs]; simp [ho1]
        have nl := nms_len hqok
        have al := asks_len hqok
        have pl := prs_len (qs := qs) (o := 0)
        have e5 : ∀ ρ : Pv.Env, 16 < ρ.length → ρ[1]? = some (some (1, .lst (ps.map ptD))) → compL (.nm 16) bYes (pTup (aCons (pC (.str "take")) (aCons (pOp2 gIx (pOp2 gIx (pBv 1) (pBv 16)) (pC (.int 2))) aNil))) 0 ρ (od.map IN) = some (((qs.map Pt.z).map fun z => (true, z)).map ddD) := fun ρ h1 h2 => by
          rw [hqs, List.map_map, List.map_map, List.map_map]
          refine comp_map (fun i : Nat => ddD (true, (pAt ps i).z)) fun i hi => ?_
          have hi' : i < ps.length := by have := ho3 i hi; omega
          have hget := pAt_get hi'
          simp -implicitDefEqProofs [h1, h2, hi', hget, ptD, ddD]
        have hzpos : ∀ z ∈ qs.map Pt.z, 0 < z := fun z hz => by
          obtain ⟨q, hq, rfl⟩ := List.mem_map.mp hz
          exact (hqok q hq).z1
        have hsz : szs qs = (qs.map Pt.z).sum := rfl
        have hs9 : szs qs ≤ 9 * cnt := by
          have : ∀ l : List Pt, (∀ q ∈ l, PtOk q) → (l.map Pt.z).sum ≤ 9 * l.length := by
            intro l
            induction l with
            | nil => intro _; simp
            | cons q l ih =>
              intro h
              have h1 := (h q List.mem_cons_self).z9
              have h2 := ih fun r hr => h r (List.mem_cons_of_mem _ hr)
              rw [List.map_cons, List.sum_cons, List.length_cons]; omega
          rw [hsz, ← hql]; exact this qs hqok
        have hs0 : 0 < szs qs := by
          cases hq : qs with
          | nil => rw [hq] at hql; simp at hql; omega
          | cons q l =>
            have := (hqok q (by rw [hq]; simp)).z1
            unfold szs; simp; omega
        obtain ⟨whole, hwh⟩ : ∃ whole, whole = szs qs + r 49 % 5 := ⟨_, rfl⟩
        have e6 : (szs qs : Int) + (r 49 : Int) % 5 = (whole : Int) := by omega
        have rr : ∀ first, K38.m_rooms_run [wy first, .int (whole : Int), .tup (((qs.map Pt.z).map fun z => (true, z)).map ddD)] = some (0, .tup ((begs 0 (qs.map Pt.z)).map od')) := fun first => by
          have := rooms_run_run first (whole := whole) (by omega) (by omega) ((qs.map Pt.z).map fun z => (true, z)) (fun d hd _ => by
            obtain ⟨z, hz, rfl⟩ := List.mem_map.mp hd
            exact hzpos z hz) (by simp; omega)
          rw [takes_run first (by omega) (by rw [← hsz]; omega) hzpos] at this
          exact this
        have lkG : K38.m_law_like [.tup ((begs 0 (qs.map Pt.z)).map od'), .tup ((begs 0 (qs.map Pt.z)).map od')] = some (0, .bl true) := like38 (likeOk_all (by simp [begs_len]; omega) fun d hd => by
          obtain ⟨o, _, rfl⟩ := List.mem_map.mp hd
          cases o <;> rfl)
        obtain ⟨TK, hTK⟩ : ∃ TK : List D, TK = ((qs.map Pt.z).map fun z => (true, z)).map ddD := ⟨_, rfl⟩
        obtain ⟨BG, hBG⟩ : ∃ BG : List D, BG = (begs 0 (qs.map Pt.z)).map od' := ⟨_, rfl⟩
        rw [← hTK] at e5
        rw [← hBG] at lkG ⊢
        simp only [← hTK, ← hBG] at rr
        obtain ⟨N, hN⟩ : ∃ N, N = nms qs := ⟨_, rfl⟩
        obtain ⟨S, hS⟩ : ∃ S, S = asks qs := ⟨_, rfl⟩
        obtain ⟨PP, hPP⟩ : ∃ PP, PP = prs 0 qs := ⟨_, rfl⟩
        obtain ⟨W, hW⟩ : ∃ W, W = wrg qs := ⟨_, rfl⟩
        have hWe : W = (N.filter fun s => decide (1 < N.count s)) ++ S.filter fun s => !decide (s ∈ N) := by rw [hW, hN, hS]; rfl
        have hNok : ∀ s ∈ N, PyData.strOk s = true := fun s hs => by
          rw [hN] at hs
          obtain ⟨q, hq, hs⟩ := List.mem_flatMap.mp hs
          exact (hqok q hq).st s hs
        have hNl : N.length ≤ 12 := by rw [hN]; omega
        have hSl : S.length ≤ 12 := by rw [hS]; omega
        have hPl : PP.length ≤ 12 := by rw [hPP]; omega
        rw [← hN, ← hS, ← hPP]
        rw [← hPP, ← hW] at lk
        have e1 : ∀ ρ : Pv.Env, 25 < ρ.length → ρ[11]? = some (some (1, .lst (N.map D.str))) → compL (.nm 25) (bVal (pOp2 (gCmpI fun i j => decide (j < i)) (pOp2 gCount (pBv 11) (pBv 25)) (pC (.int 1)))) (pVar 25) 0 ρ (N.map D.str) = some ((N.filter fun s => decide (1 < N.count s)).map D.str) := fun ρ h1 h2 => by
          refine comp_fm (fun s : Str => decide (1 < N.count s)) D.str fun s hs => ?_
          have hc := count_S (k := 1) (l := 0) (s := s) (xs := N) (by omega) hNok (hNok s hs)
          have hci : ((1 : Int) < ((N.count s : Nat) : Int)) ↔ 1 < N.count s := by omega
          simp -implicitDefEqProofs [h1, h2, hc, hci]
        have e2 : ∀ ρ : Pv.Env, 25 < ρ.length → ρ[11]? = some (some (1, .lst (N.map D.str))) → compL (.nm 25) (bVal (pOp2 (gIn true) (pBv 25) (pBv 11))) (pVar 25) 0 ρ (S.map D.str) = some ((S.filter fun s => !decide (s ∈ N)).map D.str) := fun ρ h1 h2 => by
          refine comp_fm (fun s : Str => !decide (s ∈ N)) D.str fun s hs => ?_
          by_cases e : s ∈ N <;> simp -implicitDefEqProofs [h1, h2, e]
        obtain ⟨W1, hW1⟩ : ∃ W1, W1 = N.filter fun s => decide (1 < N.count s) := ⟨_, rfl⟩
        obtain ⟨W2, hW2⟩ : ∃ W2, W2 = S.filter fun s => !decide (s ∈ N) := ⟨_, rfl⟩
        have l1 : W1.length ≤ N.length := by rw [hW1]; exact List.length_filter_le _ _
        have l2 : W2.length ≤ S.length := by rw [hW2]; exact List.length_filter_le _ _
        rw [← hW1] at e1 hWe
        rw [← hW2] at e2 hWe
        have hWm : List.map D.str W1 ++ List.map D.str W2 = W.map D.str := by rw [hWe, List.map_append]
        have lW : W.length ≤ 24 := by rw [hWe, List.length_append]; omega
        have e3 : ∀ (X : List (Str × Nat)) (ρ : Pv.Env), 26 < ρ.length → ρ[17]? = some (some (1, .lst (W.map D.str))) → compL (.nm 26) (bVal (pOp2 (gIn true) (pOp2 gIx (pBv 26) (pC (.int 0))) (pBv 17))) (pVar 26) 0 ρ (X.map prT) = some ((X.filter fun p => !decide (p.1 ∈ W)).map prT) := fun X ρ h1 h2 => by
          refine comp_fm (fun p : Str × Nat => !decide (p.1 ∈ W)) prT fun p hp => ?_
          by_cases e : p.1 ∈ W <;> simp -implicitDefEqProofs [h1, h2, e, prT]
        obtain ⟨PF, hPF⟩ : ∃ PF, PF = PP.filter fun p => !decide (p.1 ∈ W) := ⟨_, rfl⟩
        have lPF : PF.length ≤ PP.length := by rw [hPF]; exact List.length_filter_le _ _
        obtain ⟨FS, hFS⟩ : ∃ FS, FS = PP.mergeSort leT := ⟨_, rfl⟩
        have lFS : FS.length = PP.length := by rw [hFS]; exact List.length_mergeSort _
        obtain ⟨FF, hFF⟩ : ∃ FF, FF = PF.mergeSort leT := ⟨_, rfl⟩
        have lFF : FF.length = PF.length := by rw [hFF]; exact List.length_mergeSort _
        have hfil : (FS.filter fun p => !decide (p.1 ∈ W)) = FF := by rw [hFS, hFF, hPF]; exact filter_sort _ _
        have ePP := e3 PP
        have eFS := e3 FS
        rw [← hPF] at ePP
        rw [hfil] at eFS
        rw [← hFS] at lk
        have gs : gSorted (1, .lst (PF.map prT)) = some (1, .lst (FF.map prT)) := by
          rw [hFF]; exact gSorted_T (by omega) (by omega)
        obtain ⟨BS, hBS⟩ : ∃ BS, BS = srtS W := ⟨_, rfl⟩
        have lBS : BS.length ≤ W.length := by rw [hBS]; exact srtS_len _
        have sb : gSetSort (1, .lst (W.map D.str)) = some (1, .lst (BS.map D.str)) := by rw [hBS]; exact set_S (by omega) (by omega)
        rw [← hBS] at lk
        have lkF : K38.m_law_like [.tup (FF.map prT), .tup (FF.map prT)] = some (0, .bl true) := like38 (likeOk_all (by simp; omega) fun d hd => by
          obtain ⟨o, _, rfl⟩ := List.mem_map.mp hd
          rfl)
        have lkB : K38.m_law_like [.tup (BS.map D.str), .tup (BS.map D.str)] = some (0, .bl true) := like38 (likeOk_all (by simp; omega) fun d hd => by
          obtain ⟨o, _, rfl⟩ := List.mem_map.mp hd
          rfl)
        have b1 : N.length ≤ 1000000 := by omega
        have b2 : S.length ≤ 1000000 := by omega
        have b3 : W1.length + W2.length ≤ 1000000 := by omega
        have b4 : PP.length ≤ 1000000 := by omega
        have b5 : FS.length ≤ 1000000 := by omega
        have b6 : od.length ≤ 1000000 := by omega
        simp -implicitDefEqProofs [hx16, e1, e2, hWm, b1, b2, b3, b4, b5, b6, lk, ePP, eFS, gs, sb, lkF, lkB, e5]
        refine wp_for (inj := wy) [true, false] (fun pre ρ => ∃ x22, ρ = [some (0, .lst R), some (1, .lst (ps.map ptD)), some (0, .int (cnt : Int)), x3', x4, x5, x6, x7, some (0, .lst (od.map IN)), some (1, .lst (lf.map IN)), x10, some (1, .lst (N.map D.str)), some (1, .lst (S.map D.str)),
          some (1, .lst (PP.map prT)), some (0, .int (szs qs : Int)), some (1, .lst BG), x16, some (1, .lst (W.map D.str)), some (0, .tup (FS.map prT)), some (0, .tup (BS.map D.str)), some (0, .tup (FF.map prT)), some (0, .tup TK), x22, none, none, none, none]) rfl ⟨none, rfl⟩ ?_ ?_
        · rintro pre first post ρ hp ⟨x22, rfl⟩
          have rf := rr first
          simp -implicitDefEqProofs [x49, e6, rf, lkG]
        · rintro ρ ⟨x22, rfl⟩
          obtain ⟨ml, hml⟩ := setLen_S (k := 1) (xs := N) (by omega) (by omega)
          have hcl : ((ml : Int) < (N.length : Int)) ↔ ml < N.length := by omega
          simp -implicitDefEqProofs [hml, hcl]
          refine ⟨fun _ => hQ _, fun _ => ?_⟩
          obtain ⟨f, hf⟩ : ∃ f, f = r 50 % cnt := ⟨_, rfl⟩
          have hfc : f < cnt := by rw [hf]; exact Nat.mod_lt _ hc0
          have ef : (r 50 : Int) % (cnt : Int) = (f : Int) := by rw [hf]; simp
          have hpi : ∀ i, i < cnt → (ps.map ptD)[i]? = some (ptD (pAt ps i)) := fun i hi => by
            rw [List.getElem?_map, List.getElem?_eq_getElem (by omega), pAt_get (by omega)]; rfl
          have i0 : ∀ (p : Pt) (k l : Nat), gIx (k, ptD p) (l, .int 0) = some (0, .tup (p.t.map D.str)) := fun p k l => by unfold ptD; simp
          have i1 : ∀ (p : Pt) (k l : Nat), gIx (k, ptD p) (l, .int 1) = some (0, .tup (p.a.map D.str)) := fun p k l => by unfold ptD; simp
          have nr : ∀ M : List Nat, (∀ i, i ∈ M ↔ Reach ps f i) → K38.m_needed_parts [.tup (ps.map ptD), .int (f : Int)] = some (0, .tup ((srtN M).map IN)) := fun M hM => needed_run ps f hok (by omega) (by omega) M hM
          obtain ⟨PD, hPD⟩ : ∃ PD, PD = ps.map ptD := ⟨_, rfl⟩
          rw [← hPD] at hpi nr ⊢
          clear rr lkG e1 e2 e3 e5 lk ePP eFS gs sb lkF lkB
          simp -implicitDefEqProofs [x50, ef, hc0, hcb]
          refine wp_idx cnt (fun m ρ => ∃ (M : List Nat) (x7 x16 x24 : Option Pv.W), M.Nodup ∧ (∀ i ∈ M, Reach ps f i) ∧ f ∈ M ∧ ((∀ i ∈ M, ∀ j, succ ps i j → j ∈ M) ∨ m + 1 ≤ M.length) ∧ (∃ K, M = srtN K) ∧ lvl0 (some x16) = true ∧
            ρ = [some (0, .lst R), some (1, .lst PD), some (0, .int (cnt : Int)), x3', x4, x5, x6, x7, some (0, .lst (od.map IN)), some (1, .lst (lf.map IN)), x10, some (1, .lst (N.map D.str)), some (1, .lst (S.map D.str)),
              some (1, .lst (PP.map prT)), some (0, .int (szs qs : Int)), some (1, .lst BG), x16, some (1, .lst (W.map D.str)), some (0, .tup (FS.map prT)), some (0, .tup (BS.map D.str)), some (0, .tup (FF.map prT)), some (0, .tup TK), x22, some (1, .lst (M.map IN)), x24, none, none]) rfl
            ⟨[f], x7, x16, none, by simp, (fun i hi => by rw [List.mem_singleton.mp hi]; exact .base), by simp, .inr (by simp), ⟨[f], by simp [srtN, L2.uniq]⟩, hx16, by simp⟩ ?_ ?_
          · rintro m ρ hm ⟨M, x7, x16, x24, hM1, hM2, hM3, hM4, _, hx16, rfl⟩
            have hMc : ∀ i ∈ M, i < cnt := fun i hi => by have := reach_lt (by omega) (hM2 i hi); omega
            have hMl : M.length ≤ cnt := nodup_le hM1 hMc
            simp -implicitDefEqProofs []
            refine wp_for (inj := IN) M (fun pre ρ => ∃ (x16 : Option Pv.W), lvl0 (some x16) = true ∧
              ρ = [some (0, .lst R), some (1, .lst PD), some (0, .int (cnt : Int)), x3', x4, x5, x6, some (1, .lst ((pre.flatMap fun i => (pAt ps i).a).map D.str)), some (0, .lst (od.map IN)), some (1, .lst (lf.map IN)), x10, some (1, .lst (N.map D.str)), some (1, .lst (S.map D.str)),
                some (1, .lst (PP.map prT)), some (0, .int (szs qs : Int)), some (1, .lst BG), x16, some (1, .lst (W.map D.str)), some (0, .tup (FS.map prT)), some (0, .tup (BS.map D.str)), some (0, .tup (FF.map prT)), some (0, .tup TK), x22, some (0, .lst (M.map IN)), some (0, .int (m : Int)), none, none]) rfl ⟨x16, hx16, by simp⟩ ?_ ?_
            · rintro pre i post ρ hp ⟨x16, hx16, rfl⟩
              have hi : i < cnt := hMc i (by rw [hp]; simp)
              have hpp := hpi i hi
              have hla := (ok i hi).la
              have hpl : pre.length < cnt := by
                have := congrArg List.length hp
                simp at this; omega
              have hfl : ∀ l : List Nat, (∀ j ∈ l, j < cnt) → (l.flatMap fun i => (pAt ps i).a).length ≤ 2 * l.length := by
                intro l
                induction l with
                | nil => intro _; simp
                | cons j l ih =>
                  intro h
                  have h1 := (ok j (h j List.mem_cons_self)).la
                  have h2 := ih fun k hk => h k (List.mem_cons_of_mem _ hk)
                  rw [List.flatMap_cons, List.length_append, List.length_cons]; omega
              have h1 := hfl pre fun j hj => hMc j (by rw [hp]; simp [hj])
              rw [List.flatMap_append]
              generalize (pre.flatMap fun i => (pAt ps i).a) = A at *
              have h2 : A.length + (pAt ps i).a.length ≤ 1000000 := by omega
              simp -implicitDefEqProofs [hpp, i1, h2]
            · rintro ρ ⟨x16, hx16, rfl⟩
              obtain ⟨A, hA⟩ : ∃ A, A = M.flatMap fun i => (pAt ps i).a := ⟨_, rfl⟩
              rw [← hA]
              obtain ⟨bb, hbb⟩ : ∃ bb : Nat → Bool, ∀ j, ((pAt ps j).t.any fun s => decide (s ∈ A)) = bb j := ⟨_, fun _ => rfl⟩
              obtain ⟨C, hC⟩ : ∃ C, C = (List.range cnt).filter bb := ⟨_, rfl⟩
              have e7 : ∀ (t : List Str) (ρ : Pv.Env), 25 < ρ.length → ρ[7]? = some (some (1, .lst (A.map D.str))) → compL (.nm 25) bYes (pOp2 (gIn false) (pBv 25) (pBv 7)) 0 ρ (t.map D.str) = some (t.map fun s => .bl (decide (s ∈ A))) := fun t ρ h1 h2 => by
                refine comp_map (fun s : Str => D.bl (decide (s ∈ A))) fun s hs => ?_
                by_cases e : s ∈ A <;> simp -implicitDefEqProofs [h1, h2, e]
              have e8 : ∀ ρ : Pv.Env, 25 < ρ.length → ρ[1]? = some (some (1, .lst PD)) → ρ[7]? = some (some (1, .lst (A.map D.str))) → ρ[25]? = some none → compL (.nm 16) (bVal (pCall (on1 gAny) (aCons (pLc 0 (iSeq (pOp2 gIx (pOp2 gIx (pBv 1) (pBv 16)) (pC (.int 0)))) (.nm 25) [25] bYes (pOp2 (gIn false) (pBv 25) (pBv 7))) aNil))) (pVar 16) 0 ρ ((List.range cnt).map IN) = some (C.map IN) := fun ρ h1 h2 h3 h4 => by
                rw [hC]
                refine comp_fm bb IN fun j hj => ?_
                have hj' := List.mem_range.mp hj
                have hpp := hpi j hj'
                have hlt := (ok j hj').lt
                have h16 : 16 < ρ.length := by omega
                have htl : (pAt ps j).t.length ≤ 1000000 := by omega
                have an := any_bls (fun s => decide (s ∈ A)) (pAt ps j).t
                rw [hbb] at an
                have h4' : ρ[25] = none := by
                  rw [List.getElem?_eq_getElem h1] at h4; exact Option.some.inj h4
                simp -implicitDefEqProofs [h1, h2, h3, h4, h16, hpp, i0, e7, htl, an, h4']
              have hCl : C.length ≤ cnt := by
                have := List.length_filter_le bb (List.range cnt)
                rw [hC]; simpa using this
              obtain ⟨MC, hMC⟩ : ∃ MC, MC = M ++ C := ⟨_, rfl⟩
              have hmc : List.map IN M ++ List.map IN C = MC.map IN := by rw [hMC, List.map_append]
              have hMCl : MC.length ≤ 12 := by rw [hMC, List.length_append]; omega
              have st := set_N (k := 1) (xs := MC) (by omega) (by omega)
              have b7 : M.length + C.length ≤ 1000000 := by omega
              simp -implicitDefEqProofs [hx16, e8, hcb, hcm, hmc, st, b7]
              have hbi : ∀ i, bb i = true ↔ ∃ k, k ∈ M ∧ ∃ s, s ∈ (pAt ps k).a ∧ s ∈ (pAt ps i).t := fun i => by
                rw [← hbb, List.any_eq_true, hA]
                constructor
                · rintro ⟨s, h1, h2⟩
                  obtain ⟨k, h3, h4⟩ := List.mem_flatMap.mp (of_decide_eq_true h2)
                  exact ⟨k, h3, s, h4, h1⟩
                · rintro ⟨k, h3, s, h4, h1⟩
                  exact ⟨s, h1, decide_eq_true (List.mem_flatMap.mpr ⟨k, h3, h4⟩)⟩
              have hmem : ∀ i, i ∈ srtN MC ↔ i ∈ M ∨ ∃ k, k ∈ M ∧ succ ps k i := fun i => by
                rw [srtN_mem, hMC, List.mem_append, hC, List.mem_filter, List.mem_range, hbi]
                refine or_congr Iff.rfl ⟨fun ⟨h1, k, h2, s, h3, h4⟩ => ⟨k, h2, by omega, s, h3, h4⟩, fun ⟨k, h2, h1, s, h3, h4⟩ => ⟨by omega, k, h2, s, h3, h4⟩⟩
              have hclo : (∀ i ∈ M, ∀ j, succ ps i j → j ∈ M) → ∀ i ∈ srtN MC, ∀ j, succ ps i j → j ∈ srtN MC := fun h i hi j hj => by
                have : i ∈ M := by
                  rcases (hmem i).mp hi with q | ⟨k, q1, q2⟩
                  · exact q
                  · exact h k q1 i q2
                exact (hmem j).mpr (.inl (h i this j hj))
              refine ⟨srtN MC, srtN_nodup MC, fun i hi => ?_, (hmem f).mpr (.inl hM3), ?_, ⟨MC, rfl⟩, _, _, hx16, rfl, rfl, rfl⟩
              · rcases (hmem i).mp hi with q | ⟨k, q1, q2⟩
                · exact hM2 i q
                · exact (hM2 k q1).step q2
              · rcases hM4 with h | h
                · exact .inl (hclo h)
                · by_cases q : ∀ i ∈ M, ∀ j, succ ps i j → j ∈ M
                  · exact .inl (hclo q)
                  · right
                    simp only [Classical.not_forall] at q
                    obtain ⟨i, hi, j, hj, hn⟩ := q
                    have := nd_sub (xs := j :: M) (ys := srtN MC) (List.nodup_cons.mpr ⟨hn, hM1⟩) fun a ha => by
                      rcases List.mem_cons.mp ha with rfl | ha
                      · exact (hmem _).mpr (.inr ⟨i, hi, hj⟩)
                      · exact (hmem a).mpr (.inl ha)
                    rw [List.length_cons] at this
                    omega
          · rintro ρ ⟨M, x7, x16, x24, hM1, hM2, hM3, hM4, ⟨K, hK⟩, hx16, rfl⟩
            have hMc : ∀ i ∈ M, i < cnt := fun i hi => by have := reach_lt (by omega) (hM2 i hi); omega
            have hMl : M.length ≤ cnt := nodup_le hM1 hMc
            have hcl : ∀ i ∈ M, ∀ j, succ ps i j → j ∈ M := hM4.resolve_right (by omega)
            have hR : ∀ i, i ∈ M ↔ Reach ps f i := fun i => by
              refine ⟨hM2 i, fun h => ?_⟩
              induction h with
              | base => exact hM3
              | step _ q ih => exact hcl _ ih _ q
            have hn := nr M hR
            have hsm : srtN M = M := by
              have := srtN_eq (xs := M) (l := L2.uniq K) (L2.uniq_nodup K) fun a => by rw [L2.uniq_mem, hK, srtN_mem]
              rw [← this]; exact hK.symm
            rw [hsm] at hn
            have lkM : K38.m_law_like [.tup (M.map IN), .tup (M.map IN)] = some (0, .bl true) := like38 (likeOk_all (by simp; omega) fun d hd => by
              obtain ⟨o, _, rfl⟩ := List.mem_map.mp hd
              rfl)
            simp -implicitDefEqProofs [x50, ef, hc0, hn, lkM]
            exact hQ _
end HP
set_option Elab.async false
set_option linter.all false
set_option maxRecDepth 100000
/-! B12: the deeds; the law -/
namespace HP
open PySem L2 Pv
theorem deeds_run (r : Nat → Nat) : ∃ ds : List (Bool × Nat), ds.length ≤ 20 ∧ (∀ d ∈ ds, d.1 = true → 0 < d.2) ∧ K38.m_law_deeds [.lst ((List.range 54).map fun i => IN (r i))] = some (0, .tup (ds.map ddD)) := by
  have main : ∃ w, K38.m_law_deeds [.lst ((List.range 54).map fun i => IN (r i))] = some w ∧ ∃ ds : List (Bool × Nat), ds.length ≤ 20 ∧ (∀ d ∈ ds, d.1 = true → 0 < d.2) ∧ w = (0, .tup (ds.map ddD)) := by
    refine def_ex _ rfl (fun w ⟨ds, _, _, e⟩ => ?_) fun Q hQ => ?_
    · rw [e]
      show cleanD 0 (.tup (ds.map ddD)) = true
      rw [clean0]
      exact noBoxs_all fun d hd => by obtain ⟨o, _, rfl⟩ := List.mem_map.mp hd; rfl
    unfold K38.b_law_deeds
    obtain ⟨R, hR⟩ : ∃ R, R = (List.range 54).map fun i => IN (r i) := ⟨_, rfl⟩
    have hx : ∀ (i : Nat), i < 54 → R[i]? = some (.int (r i : Int)) := fun i hi => by
      rw [hR]
      simp [hi]
    rw [← hR]
    clear hR
    have x0 := hx 0 (by omega)
    obtain ⟨cnt, hcnt⟩ : ∃ cnt : Nat, cnt = r 0 % 21 := ⟨_, rfl⟩
    have c1 : (r 0 : Int) % 21 = (cnt : Int) := by omega
    have hc6 : cnt ≤ 20 := by omega
    have hcb : cnt ≤ 1000000000 := by omega
    simp -implicitDefEqProofs [x0, c1, hcb]
    refine wp_idx cnt (fun m ρ => ∃ (ds : List (Bool × Nat)) (tk : Nat) (x3 x4 : Option W), ds.length = m ∧ (∀ d ∈ ds, d.1 = true → 0 < d.2) ∧
      ρ = [some (0, .lst R), some (1, .lst (ds.map ddD)), some (0, .int (tk : Int)), x3, x4]) rfl ⟨[], 0, none, none, rfl, (fun d hd => by cases hd), by simp⟩ ?_ ?_
    · rintro m ρ hm ⟨ds, tk, x3, x4, hl, hok, rfl⟩
      have h1 : (1 : Int) + (m : Int) = ((1 + m : Nat) : Int) := by omega
      have x1 := hx (1 + m) (by omega)
      generalize r (1 + m) = c at x1
      have hdl : ds.length < 1000000 := by omega
      have e1 : (1 : Int) + (c : Int) / 5 % 12 = ((1 + c / 5 % 12 : Nat) : Int) := by omega
      have hz : 0 < 1 + c / 5 % 12 := by omega
      have e2 : (tk : Int) + 1 = ((tk + 1 : Nat) : Int) := by omega
      have take : ∃ (ds' : List (Bool × Nat)), ds'.length = m + 1 ∧ (∀ d ∈ ds', d.1 = true → 0 < d.2) ∧ ds.map ddD ++ [D.tup [.str "take", .int ((1 + c / 5 % 12 : Nat) : Int)]] = ds'.map ddD := by
        refine ⟨ds ++ [(true, 1 + c / 5 % 12)], by simp [hl], fun d hd ht => ?_, by simp [ddD]⟩
        rcases List.mem_append.mp hd with hd | hd
        · exact hok d hd ht
        · rw [List.mem_singleton.mp hd]; exact hz
      have give : ∀ n : Nat, ∃ (ds' : List (Bool × Nat)), ds'.length = m + 1 ∧ (∀ d ∈ ds', d.1 = true → 0 < d.2) ∧ ds.map ddD ++ [D.tup [.str "give", .int (n : Int)]] = ds'.map ddD := fun n => by
        refine ⟨ds ++ [(false, n)], by simp [hl], fun d hd ht => ?_, by simp [ddD]⟩
        rcases List.mem_append.mp hd with hd | hd
        · exact hok d hd ht
        · rw [List.mem_singleton.mp hd] at ht; cases ht
      obtain ⟨dt, t1, t2, t3⟩ := take
      by_cases q1 : (c : Int) % 5 < 3
      · simp -implicitDefEqProofs [h1, x1, e1, e2, q1, Pv.big, hdl, t3, -Int.natCast_add, -Int.natCast_emod, -Int.natCast_ediv]
        exact ⟨dt, t1, fun b hb => t2 _ hb rfl, rfl, tk + 1, rfl⟩
      · by_cases q2 : tk = 0
        · subst q2
          simp -implicitDefEqProofs [h1, x1, e1, q1, Pv.big, hdl, t3, -Int.natCast_add, -Int.natCast_emod, -Int.natCast_ediv]
          exact ⟨dt, t1, fun b hb => t2 _ hb rfl, rfl, 1, rfl⟩
        · have h0 : 0 < tk := by omega
          have e3 : (c : Int) / 5 % (tk : Int) = ((c / 5 % tk : Nat) : Int) := by simp
          have e4 : (50 : Int) + (tk : Int) = ((50 + tk : Nat) : Int) := by omega
          obtain ⟨da, a1, a2, a3⟩ := give (c / 5 % tk)
          obtain ⟨db, b1, b2, b3⟩ := give (50 + tk)
          by_cases q3 : (c : Int) / 100 % 9 = 0
          · simp -implicitDefEqProofs [h1, x1, e3, e4, q1, q2, q3, h0, Pv.big, hdl, b3, -Int.natCast_add, -Int.natCast_emod, -Int.natCast_ediv]
            exact ⟨db, b1, fun b hb => b2 _ hb rfl, rfl, tk, rfl⟩
          · simp -implicitDefEqProofs [h1, x1, e3, e4, q1, q2, q3, h0, Pv.big, hdl, a3, -Int.natCast_add, -Int.natCast_emod, -Int.natCast_ediv]
            exact ⟨da, a1, fun b hb => a2 _ hb rfl, rfl, tk, rfl⟩
    · rintro ρ ⟨ds, tk, x3, x4, hl, hok, rfl⟩
      simp
      exact hQ _ _ ⟨ds, by omega, hok, rfl⟩
  obtain ⟨w, e, ds, h1, h2, rfl⟩ := main
  exact ⟨ds, h1, h2, e⟩
theorem law_true (ns : List Int) : K38.m_law [.scr ns] = some (0, .bl true) := by
  refine def_of0 rfl rfl fun Q hQ => ?_
  unfold K38.b_law
  obtain ⟨r, hr⟩ := CL.row ns 54 (by omega)
  have hr' : K38.m_law_row [.scr ns, .int 54] = some (1, .lst ((List.range 54).map fun i => IN (r i))) := hr
  obtain ⟨ds, d1, d2, d3⟩ := deeds_run r
  have la := law_apart_run r
  have ll := law_links_run r
  obtain ⟨R, hR⟩ : ∃ R, R = (List.range 54).map fun i => IN (r i) := ⟨_, rfl⟩
  have x21 : R[21]? = some (.int (r 21 : Int)) := by rw [hR]; simp
  rw [← hR] at hr' d3 la ll
  have e1 : (8 : Int) + (r 21 : Int) % 53 = ((8 + r 21 % 53 : Nat) : Int) := by omega
  have lb := law_both_run (whole := 8 + r 21 % 53) (by omega) (by omega) ds d2 (by omega)
  generalize 8 + r 21 % 53 = whole at e1 lb
  simp -implicitDefEqProofs [hr', x21, e1, d3, lb, la, ll]
  exact hQ _
end HP
set_option Elab.async false
set_option linter.all false
set_option maxRecDepth 100000
/-! printed by gen.py: the defs of the law as data, and that they are so -/
namespace K38
open PySem PySem.Spec PyProof.Rows L2 Pv
def topS (i : Nat) : Stmt := PySem.Challenge.pw_tonguesalike_k38_whole_rooms_and_links.main.body.getD i (.Pass ⟨0, 0, 0, 0⟩)
abbrev s_law_mixed : Stmt := topS 13
abbrev s_law_row : Stmt := topS 14
abbrev s_law_fit : Stmt := topS 18
abbrev s_law_is_int : Stmt := topS 15
abbrev s_law_like : Stmt := topS 16
abbrev s_law_place : Stmt := topS 20
abbrev s_law_given : Stmt := topS 19
abbrev s_lost_room : Stmt := topS 8
abbrev s_first_room : Stmt := topS 1
abbrev s_best_room : Stmt := topS 2
abbrev s_room_taken : Stmt := topS 3
abbrev s_room_given : Stmt := topS 4
abbrev s_law_run : Stmt := topS 21
abbrev s_begin_of : Stmt := topS 5
abbrev s_place_of : Stmt := topS 6
abbrev s_rooms_run : Stmt := topS 7
abbrev s_law_both : Stmt := topS 22
abbrev s_law_apart : Stmt := topS 23
abbrev s_linked : Stmt := topS 10
abbrev s_needed_parts : Stmt := topS 11
abbrev s_law_links : Stmt := topS 24
abbrev s_law_deeds : Stmt := topS 17
abbrev s_law : Stmt := topS 25
theorem sc_law_mixed : FnScope ["script", "k", "cell", "first", "second", "third"] ["script", "k"] (defScope s_law_mixed) := ⟨rfl, rfl, rfl, by decide +kernel, rfl, by decide +kernel, by decide +kernel⟩
theorem sc_law_row : FnScope ["script", "many", "big", "row", "k"] ["script", "many"] (defScope s_law_row) := ⟨rfl, rfl, rfl, by decide +kernel, rfl, by decide +kernel, by decide +kernel⟩
theorem sc_law_fit : FnScope ["way", "rooms", "size", "best", "place", "length"] ["way", "rooms", "size"] (defScope s_law_fit) := ⟨rfl, rfl, rfl, by decide +kernel, rfl, by decide +kernel, by decide +kernel⟩
theorem sc_law_is_int : FnScope ["value"] ["value"] (defScope s_law_is_int) := ⟨rfl, rfl, rfl, by decide +kernel, rfl, by decide +kernel, by decide +kernel⟩
theorem sc_law_like : FnScope ["value", "due", "k"] ["value", "due"] (defScope s_law_like) := ⟨rfl, rfl, rfl, by decide +kernel, rfl, by decide +kernel, by decide +kernel⟩
theorem sc_law_place : FnScope ["rooms", "begin", "place", "passed", "size", "free"] ["rooms", "begin"] (defScope s_law_place) := ⟨rfl, rfl, rfl, by decide +kernel, rfl, by decide +kernel, by decide +kernel⟩
theorem sc_law_given : FnScope ["rooms", "place", "low", "high", "size", "free"] ["rooms", "place"] (defScope s_law_given) := ⟨rfl, rfl, rfl, by decide +kernel, rfl, by decide +kernel, by decide +kernel⟩
theorem sc_lost_room : FnScope ["rooms", "free", "length", "is_free"] ["rooms"] (defScope s_lost_room) := ⟨rfl, rfl, rfl, by decide +kernel, rfl, by decide +kernel, by decide +kernel⟩
theorem sc_first_room : FnScope ["rooms", "size", "place", "length", "is_free"] ["rooms", "size"] (defScope s_first_room) := ⟨rfl, rfl, rfl, by decide +kernel, rfl, by decide +kernel, by decide +kernel⟩
theorem sc_best_room : FnScope ["rooms", "size", "best", "place", "length", "is_free"] ["rooms", "size"] (defScope s_best_room) := ⟨rfl, rfl, rfl, by decide +kernel, rfl, by decide +kernel, by decide +kernel⟩
theorem sc_room_taken : FnScope ["rooms", "place", "size", "rest", "parted"] ["rooms", "place", "size"] (defScope s_room_taken) := ⟨rfl, rfl, rfl, by decide +kernel, rfl, by decide +kernel, by decide +kernel⟩
theorem sc_room_given : FnScope ["rooms", "place", "low", "high", "size", "room"] ["rooms", "place"] (defScope s_room_given) := ⟨rfl, rfl, rfl, by decide +kernel, rfl, by decide +kernel, by decide +kernel⟩
theorem sc_law_run : FnScope ["way", "whole", "deeds", "rooms", "begins", "held", "kind", "number", "place", "parted", "later", "free", "size", "is_free"] ["way", "whole", "deeds"] (defScope s_law_run) := ⟨rfl, rfl, rfl, by decide +kernel, rfl, by decide +kernel, by decide +kernel⟩
theorem sc_begin_of : FnScope ["rooms", "place", "room"] ["rooms", "place"] (defScope s_begin_of) := ⟨rfl, rfl, rfl, by decide +kernel, rfl, by decide +kernel, by decide +kernel⟩
theorem sc_place_of : FnScope ["rooms", "begin", "size", "passed", "place", "length", "is_free"] ["rooms", "begin", "size"] (defScope s_place_of) := ⟨rfl, rfl, rfl, by decide +kernel, rfl, by decide +kernel, by decide +kernel⟩
theorem sc_rooms_run : FnScope ["way", "whole", "deeds", "rooms", "begins", "held", "deed", "number", "place"] ["way", "whole", "deeds"] (defScope s_rooms_run) := ⟨rfl, rfl, rfl, by decide +kernel, rfl, by decide +kernel, by decide +kernel⟩
theorem sc_law_both : FnScope ["whole", "deeds", "takes", "after", "way", "begins", "kind", "number", "k"] ["whole", "deeds"] (defScope s_law_both) := ⟨rfl, rfl, rfl, by decide +kernel, rfl, by decide +kernel, by decide +kernel⟩
theorem sc_law_apart : FnScope ["row", "far", "near", "size", "one", "two", "rest", "deeds", "whole", "begins"] ["row"] (defScope s_law_apart) := ⟨rfl, rfl, rfl, by decide +kernel, rfl, by decide +kernel, by decide +kernel⟩
theorem sc_linked : FnScope ["parts", "order", "pairs", "told", "asked", "place", "at", "names", "wanted", "size", "name", "wrong"] ["parts", "order"] (defScope s_linked) := ⟨rfl, rfl, rfl, by decide +kernel, rfl, by decide +kernel, by decide +kernel⟩
theorem sc_needed_parts : FnScope ["parts", "first", "tellers", "at", "part", "name", "found", "todo"] ["parts", "first"] (defScope s_needed_parts) := ⟨rfl, rfl, rfl, by decide +kernel, rfl, by decide +kernel, by decide +kernel⟩
theorem sc_law_links : FnScope ["row", "parts", "count", "k", "cell", "other", "told", "asked", "order", "left", "place", "names", "all_asked", "pairs", "begin", "begins", "at", "wrong", "found", "bad", "once", "takes", "way", "met", "turn", "name", "pair"] ["row"] (defScope s_law_links) := ⟨rfl, rfl, rfl, by decide +kernel, rfl, by decide +kernel, by decide +kernel⟩
theorem sc_law_deeds : FnScope ["row", "deeds", "takes", "k", "cell"] ["row"] (defScope s_law_deeds) := ⟨rfl, rfl, rfl, by decide +kernel, rfl, by decide +kernel, by decide +kernel⟩
theorem sc_law : FnScope ["script", "row"] ["script"] (defScope s_law) := ⟨rfl, rfl, rfl, by decide +kernel, rfl, by decide +kernel, by decide +kernel⟩
/-- the builtins are their own -/
structure MG (mg : Str → Option Value) : Prop where
  all_ : mg "all" = none
  any_ : mg "any" = none
  bool_ : mg "bool" = none
  enumerate_ : mg "enumerate" = none
  int_ : mg "int" = none
  isinstance_ : mg "isinstance" = none
  len_ : mg "len" = none
  list_ : mg "list" = none
  max_ : mg "max" = none
  min_ : mg "min" = none
  range_ : mg "range" = none
  set_ : mg "set" = none
  sorted_ : mg "sorted" = none
  str_ : mg "str" = none
  sum_ : mg "sum" = none
  tuple_ : mg "tuple" = none
section
variable {P : Program} {w : World} {K : PySem.W.Frag} {mg : Str → Option Value} {base : Heap}
set_option maxHeartbeats 1000000 in
theorem ok_law_mixed {f fd} (F : Fun K "_law_mixed" "_law_mixed" s_law_mixed f fd) (B : MG mg) : FnOk P w K mg base CX0 1 f fd ["script", "k"] (spD K m_law_mixed) :=
  fnM F sc_law_mixed fun cdv A outer s H hr => b_cons (s_asg sc_law_mixed.nd e_int) (b_cons (s_if (t_cmp op_gt g_cmpI (e_len (by rfl) B.len_ (e_bv 0)) e_int) (b_one (s_asg sc_law_mixed.nd (e_ix ix_seq g_ix (e_bv 0) (e_bin op_mod g_mod (e_bv 1) (e_len (by rfl) B.len_ (e_bv 0)))))) b_nil) (b_cons (s_asg sc_law_mixed.nd (e_bin op_mod g_mod (e_intF (by rfl) B.int_ (e_bin op_addA g_add (e_bin op_addA g_add (e_bin op_mul g_mulI (e_bv 2) e_int) (e_bin op_mul g_mulI (e_bv 1) e_int)) e_int)) e_int)) (b_cons (s_asg sc_law_mixed.nd (e_bin op_mod g_mod (e_intF (by rfl) B.int_ (e_bin op_addA g_add (e_bin op_addA g_add (e_bin op_mul g_mulI (e_bv 3) (e_bv 3)) (e_bin op_fdiv g_fdiv (e_bv 3) e_int)) (e_bin op_mul g_mulI (e_bv 1) e_int))) e_int)) (b_cons (s_asg sc_law_mixed.nd (e_bin op_mod g_mod (e_intF (by rfl) B.int_ (e_bin op_addA g_add (e_bin op_addA g_add (e_bin op_mul g_mulI (e_bv 4) (e_bv 4)) (e_bin op_fdiv g_fdiv (e_bv 4) e_int)) e_int)) e_int)) (b_one (s_ret (e_bin op_mod g_mod (e_bin op_fdiv g_fdiv (e_bv 5) e_int) e_int)))))))
set_option maxHeartbeats 1000000 in
theorem ok_law_row {f fd} (F : Fun K "_law_row" "_law_row" s_law_row f fd) (B : MG mg) (F_law_mixed : FnG P w K mg base 1 "_law_mixed" m_law_mixed []) : FnOk P w K mg base CX0 2 f fd ["script", "many"] (spD K m_law_row) :=
  fnM F sc_law_row fun cdv A outer s H hr => b_cons (s_asg sc_law_row.nd e_int) (b_cons (s_if ((w_and (t_cmp op_gt g_cmpI (e_len (by rfl) B.len_ (e_bv 0)) e_int) (w_and1 (t_cmp op_ge g_cmpI (e_ix ix_seq g_ix (e_bv 0) e_int) (e_bin op_pow g_pow e_int e_int)))).t) (b_one (s_asg sc_law_row.nd (e_ix ix_seq g_ix (e_bv 0) e_int))) b_nil) (b_cons (s_asg sc_law_row.nd (e_lst a_nil)) (b_cons (s_for PassesOwn.never rfl (i_range1 (by rfl) B.range_ (e_bv 1)) (g_name sc_law_row.nd) (b_one (s_if (t_cmp op_gt g_cmpI (e_bv 2) e_int) (b_cons (s_app (e_bin op_mod g_mod (e_intF (by rfl) B.int_ (e_bv 2)) e_int)) (b_one (s_asg sc_law_row.nd (e_bin op_fdiv g_fdiv (e_bv 2) e_int)))) (b_one (s_app (e_fn (F_law_mixed.d (by omega)) hr (by rfl) (a_cons (e_bv 0) (a_cons (e_bv 4) a_nil)) pass0)))))) (b_one (s_ret (e_bv 3))))))
set_option maxHeartbeats 1000000 in
theorem ok_law_fit {f fd} (F : Fun K "_law_fit" "_law_fit" s_law_fit f fd) (B : MG mg) : FnOk P w K mg base CX0 1 f fd ["way", "rooms", "size"] (spD K m_law_fit) :=
  fnM F sc_law_fit fun cdv A outer s H hr => b_cons (s_setLc (j := 0) rfl sc_law_fit.nd (by rfl) (c_range1 (by rfl) B.range_ (e_len (by rfl) B.len_ (e_bv 1))) (blkOk_by (own := [("place", 4)]) rfl) (fun s H C cl fp => g_name sc_law_fit.nd) (fun s H C cl fp => ts_one ((w_and (t_val (e_ix ix_seq g_ix (e_ix ix_seq g_ix (e_bv 1) (e_bv 4)) e_int)) (w_and1 (t_cmp op_ge g_cmpI (e_ix ix_seq g_ix (e_ix ix_seq g_ix (e_bv 1) (e_bv 4)) e_int) (e_bv 2)))).t)) (fun s H C cl fp => e_tup (a_cons (e_ix ix_seq g_ix (e_ix ix_seq g_ix (e_bv 1) (e_bv 4)) e_int) (a_cons (e_var 4) a_nil)))) (b_cons (s_if (t_cmp (op_eqA hr.units) g_eq (e_len (by rfl) B.len_ (e_bv 3)) e_int) (b_one (s_ret e_non)) b_nil) (b_cons (s_if (t_cmp (op_eqA hr.units) g_eq (e_bv 0) e_str) (b_one (s_ret (e_ix ix_seq g_ix (e_minP rfl hr.units (by rfl) B.min_ (e_bv 3)) e_int))) b_nil) (b_one (s_ret (e_min rfl (by rfl) B.min_ (e_lc (j := 0) rfl sc_law_fit.nd (c_list (e_bv 3)) (blkOk_by (own := [("length", 5), ("place", 4)]) rfl) (fun s H C cl fp => g_tup rfl (gs_cons (g_name sc_law_fit.nd) (gs_cons (g_name sc_law_fit.nd) gs_nil))) (fun s H C cl fp => ts_nil) (fun s H C cl fp => e_var 4)))))))
set_option maxHeartbeats 1000000 in
theorem ok_law_is_int {f fd} (F : Fun K "_law_is_int" "_law_is_int" s_law_is_int f fd) (B : MG mg) : FnOk P w K mg base CX0 1 f fd ["value"] (spD K m_law_is_int) :=
  fnM F sc_law_is_int fun cdv A outer s H hr => b_one (s_ret (e_and (e_isi .int (by rfl) B.isinstance_ (by rfl) B.int_ (e_bv 0)) (e_one (e_not (e_isi .bl (by rfl) B.isinstance_ (by rfl) B.bool_ (e_bv 0))))))
set_option maxHeartbeats 1000000 in
theorem ok_law_like {f fd n} {m : List D → Option W} (F : Fun K "_law_like" "_law_like" s_law_like f fd) (B : MG mg) (F_law_is_int : FnG P w K mg base 1 "_law_is_int" m_law_is_int []) (F_law_like : FnG P w K mg base (n + 1) "_law_like" m []) : FnOk P w K mg base CX0 (n + 1 + 1) f fd ["value", "due"] (spD K (mkM 3 2 (b_law_like m))) :=
  fnM F sc_law_like fun cdv A outer s H hr => b_cons (s_if (t_cmp op_isN g_isN (e_bv 1) e_non) (b_one (s_ret (e_cmp op_isN g_isN (e_bv 0) e_non))) b_nil) (b_cons (s_if (t_val (e_isi .bl (by rfl) B.isinstance_ (by rfl) B.bool_ (e_bv 1))) (b_one (s_ret (e_and (e_isi .bl (by rfl) B.isinstance_ (by rfl) B.bool_ (e_bv 0)) (e_one (e_cmp (op_eqA hr.units) g_eq (e_bv 0) (e_bv 1)))))) b_nil) (b_cons (s_if (t_val (e_isi .tup (by rfl) B.isinstance_ (by rfl) B.tuple_ (e_bv 1))) (b_cons (s_if ((w_or (t_not (t_val (e_isi .tup (by rfl) B.isinstance_ (by rfl) B.tuple_ (e_bv 0)))) (w_or1 (t_cmp (op_neA hr.units) g_ne (e_len (by rfl) B.len_ (e_bv 0)) (e_len (by rfl) B.len_ (e_bv 1))))).t) (b_one (s_ret e_bl)) b_nil) (b_one (s_ret (e_all rfl (by rfl) B.all_ (e_lc (j := 0) rfl sc_law_like.nd (c_range1 (by rfl) B.range_ (e_len (by rfl) B.len_ (e_bv 1))) (blkOk_by (own := [("k", 2)]) rfl) (fun s H C cl fp => g_name sc_law_like.nd) (fun s H C cl fp => ts_nil) (fun s H C cl fp => e_fn (F_law_like.d (by omega)) hr (by rfl) (a_cons (e_ix ix_seq g_ix (e_bv 0) (e_bv 2)) (a_cons (e_ix ix_seq g_ix (e_bv 1) (e_bv 2)) a_nil)) pass0)))))) b_nil) (b_cons (s_if (t_val (e_isi .str (by rfl) B.isinstance_ (by rfl) B.str_ (e_bv 1))) (b_one (s_ret (e_and (e_isi .str (by rfl) B.isinstance_ (by rfl) B.str_ (e_bv 0)) (e_one (e_cmp (op_eqA hr.units) g_eq (e_bv 0) (e_bv 1)))))) b_nil) (b_one (s_ret (e_and (e_fn (F_law_is_int.d (by omega)) hr (by rfl) (a_cons (e_bv 0) a_nil) pass0) (e_one (e_cmp (op_eqA hr.units) g_eq (e_bv 0) (e_bv 1)))))))))
theorem okr_law_like {f fd} (F : Fun K "_law_like" "_law_like" s_law_like f fd) (B : MG mg) (F_law_is_int : FnG P w K mg base 1 "_law_is_int" m_law_is_int []) (hm : mg "_law_like" = some (.ref f)) (hb : Binds K fd ["value", "due"] []) : ∀ n, FnOk P w K mg base CX0 (n + 1) f fd ["value", "due"] (spD K (r_law_like n))
  | 0 => F.ok sc_law_like (fun vs H Q E ⟨_, _, _, h, _⟩ => by cases h) (fun cdv A outer s H vs Q E hr ⟨_, _, _, h, _⟩ => by cases h)
  | n + 1 => by
    have h := ok_law_like (n := n) F B F_law_is_int ⟨⟨f, fd, _, [], [], okr_law_like F B F_law_is_int hm hb n, hm, F.kp, hb, .nil, fun _ => rfl⟩, fun ds u q => by
      cases n with
      | zero => cases q
      | succ n => exact mkM_cl ds u q⟩
    have e : n + 1 + 1 = n + 1 + 1 := by omega
    rw [e]; exact h
set_option maxHeartbeats 1000000 in
theorem ok_law_place {f fd} (F : Fun K "_law_place" "_law_place" s_law_place f fd) (B : MG mg) : FnOk P w K mg base CX0 1 f fd ["rooms", "begin"] (spD K m_law_place) :=
  fnM F sc_law_place fun cdv A outer s H hr => b_cons (s_asgT (e_tup (a_cons e_int (a_cons e_int a_nil))) (g_tup rfl (gs_cons (g_name sc_law_place.nd) (gs_cons (g_name sc_law_place.nd) gs_nil)))) (b_cons (s_for PassesOwn.never rfl (i_seq (e_var 0)) (g_tup rfl (gs_cons (g_name sc_law_place.nd) (gs_cons (g_name sc_law_place.nd) gs_nil))) (b_cons (s_if (t_cmp op_lt g_cmpI (e_bv 3) (e_bv 1)) (b_one (s_asg sc_law_place.nd (e_bin op_addA g_add (e_bv 2) e_int))) b_nil) (b_one (s_asg sc_law_place.nd (e_bin op_addA g_add (e_bv 3) (e_bv 4)))))) (b_one (s_ret (e_bv 2))))
set_option maxHeartbeats 1000000 in
theorem ok_law_given {f fd} (F : Fun K "_law_given" "_law_given" s_law_given f fd) (B : MG mg) : FnOk P w K mg base CX0 1 f fd ["rooms", "place"] (spD K m_law_given) :=
  fnM F sc_law_given fun cdv A outer s H hr => b_cons (s_par2 rfl sc_law_given.nd (a_cons (e_var 1) (a_cons (e_bin op_addA g_add (e_bv 1) e_int) a_nil))) (b_cons (s_if ((w_and (t_cmp op_gt g_cmpI (e_bv 2) e_int) (w_and1 (t_val (e_ix ix_seq g_ix (e_ix ix_seq g_ix (e_bv 0) (e_bin op_sub g_sub (e_bv 2) e_int)) e_int)))).t) (b_one (s_asg sc_law_given.nd (e_bin op_sub g_sub (e_bv 2) e_int))) b_nil) (b_cons (s_if ((w_and (t_cmp op_lt g_cmpI (e_bv 3) (e_len (by rfl) B.len_ (e_bv 0))) (w_and1 (t_val (e_ix ix_seq g_ix (e_ix ix_seq g_ix (e_bv 0) (e_bv 3)) e_int)))).t) (b_one (s_asg sc_law_given.nd (e_bin op_addA g_add (e_bv 3) e_int))) b_nil) (b_one (s_ret (e_bin op_addA g_add (e_bin op_addA g_add (e_sl (e_bv 0) o_none (o_some (e_bv 2))) (e_tup (a_cons (e_tup (a_cons (e_sum rfl (by rfl) B.sum_ (e_lc (j := 0) rfl sc_law_given.nd (c_seq (e_sl (e_bv 0) (o_some (e_bv 2)) (o_some (e_bv 3)))) (blkOk_by (own := [("size", 4), ("free", 5)]) rfl) (fun s H C cl fp => g_tup rfl (gs_cons (g_name sc_law_given.nd) (gs_cons (g_name sc_law_given.nd) gs_nil))) (fun s H C cl fp => ts_nil) (fun s H C cl fp => e_var 4))) (a_cons e_bl a_nil))) a_nil))) (e_sl (e_bv 0) (o_some (e_bv 3)) o_none))))))
set_option maxHeartbeats 1000000 in
theorem ok_lost_room {f fd} (F : Fun K "lost_room" "lost_room" s_lost_room f fd) (B : MG mg) : FnOk P w K mg base CX0 1 f fd ["rooms"] (spD K m_lost_room) :=
  fnM F sc_lost_room fun cdv A outer s H hr => b_cons (s_setLc (j := 0) rfl sc_lost_room.nd (by rfl) (c_seq (e_var 0)) (blkOk_by (own := [("length", 2), ("is_free", 3)]) rfl) (fun s H C cl fp => g_tup rfl (gs_cons (g_name sc_lost_room.nd) (gs_cons (g_name sc_lost_room.nd) gs_nil))) (fun s H C cl fp => ts_one (t_tru (e_bv 3))) (fun s H C cl fp => e_var 2)) (b_one (s_ret (e_bin op_sub g_sub (e_sum rfl (by rfl) B.sum_ (e_bv 1)) (e_maxDef rfl hr.units (by rfl) B.max_ (e_bv 1) e_int))))
set_option maxHeartbeats 1000000 in
theorem ok_first_room {f fd} (F : Fun K "first_room" "first_room" s_first_room f fd) (B : MG mg) : FnOk P w K mg base CX0 1 f fd ["rooms", "size"] (spD K m_first_room) :=
  fnM F sc_first_room fun cdv A outer s H hr => b_cons (s_for PassesOwn.never rfl (i_enum (by rfl) B.enumerate_ (e_var 0)) (g_tup rfl (gs_cons (g_name sc_first_room.nd) (gs_cons (g_tup rfl (gs_cons (g_name sc_first_room.nd) (gs_cons (g_name sc_first_room.nd) gs_nil))) gs_nil))) (b_one (s_if ((w_and (t_tru (e_bv 4)) (w_and1 (t_cmp op_ge g_cmpI (e_bv 3) (e_bv 1)))).t) (b_one (s_ret (e_bv 2))) b_nil))) (b_one (s_ret e_non))
set_option maxHeartbeats 1000000 in
theorem ok_best_room {f fd} (F : Fun K "best_room" "best_room" s_best_room f fd) (B : MG mg) : FnOk P w K mg base CX0 1 f fd ["rooms", "size"] (spD K m_best_room) :=
  fnM F sc_best_room fun cdv A outer s H hr => b_cons (s_asg sc_best_room.nd e_non) (b_cons (s_for PassesOwn.never rfl (i_enum (by rfl) B.enumerate_ (e_var 0)) (g_tup rfl (gs_cons (g_name sc_best_room.nd) (gs_cons (g_tup rfl (gs_cons (g_name sc_best_room.nd) (gs_cons (g_name sc_best_room.nd) gs_nil))) gs_nil))) (b_one (s_if ((w_and (t_tru (e_bv 5)) (w_and (t_cmp op_ge g_cmpI (e_bv 4) (e_bv 1)) (w_and1 ((w_or (t_cmp op_isN g_isN (e_bv 2) e_non) (w_or1 (t_cmp op_lt g_cmpI (e_bv 4) (e_ix ix_seq g_ix (e_ix ix_seq g_ix (e_bv 0) (e_bv 2)) e_int)))).t)))).t) (b_one (s_asg sc_best_room.nd (e_var 3))) b_nil))) (b_one (s_ret (e_bv 2))))
set_option maxHeartbeats 1000000 in
theorem ok_room_taken {f fd} (F : Fun K "room_taken" "room_taken" s_room_taken f fd) (B : MG mg) : FnOk P w K mg base CX0 1 f fd ["rooms", "place", "size"] (spD K m_room_taken) :=
  fnM F sc_room_taken fun cdv A outer s H hr => b_cons (s_asg sc_room_taken.nd (e_bin op_sub g_sub (e_ix ix_seq g_ix (e_ix ix_seq g_ix (e_bv 0) (e_bv 1)) e_int) (e_bv 2))) (b_cons (s_asg sc_room_taken.nd (e_if (t_cmp (op_eqA hr.units) g_eq (e_bv 3) e_int) (e_tup (a_cons (e_tup (a_cons (e_var 2) (a_cons e_bl a_nil))) a_nil)) (e_tup (a_cons (e_tup (a_cons (e_var 2) (a_cons e_bl a_nil))) (a_cons (e_tup (a_cons (e_var 3) (a_cons e_bl a_nil))) a_nil))))) (b_one (s_ret (e_bin op_addA g_add (e_bin op_addA g_add (e_sl (e_bv 0) o_none (o_some (e_bv 1))) (e_bv 4)) (e_sl (e_bv 0) (o_some (e_bin op_addA g_add (e_bv 1) e_int)) o_none)))))
set_option maxHeartbeats 1000000 in
theorem ok_room_given {f fd} (F : Fun K "room_given" "room_given" s_room_given f fd) (B : MG mg) : FnOk P w K mg base CX0 1 f fd ["rooms", "place"] (spD K m_room_given) :=
  fnM F sc_room_given fun cdv A outer s H hr => b_cons (s_asg sc_room_given.nd (e_if ((w_and (t_cmp op_gt g_cmpI (e_bv 1) e_int) (w_and1 (t_val (e_ix ix_seq g_ix (e_ix ix_seq g_ix (e_bv 0) (e_bin op_sub g_sub (e_bv 1) e_int)) e_int)))).t) (e_bin op_sub g_sub (e_bv 1) e_int) (e_var 1))) (b_cons (s_asg sc_room_given.nd (e_if ((w_and (t_cmp op_lt g_cmpI (e_bin op_addA g_add (e_bv 1) e_int) (e_len (by rfl) B.len_ (e_bv 0))) (w_and1 (t_val (e_ix ix_seq g_ix (e_ix ix_seq g_ix (e_bv 0) (e_bin op_addA g_add (e_bv 1) e_int)) e_int)))).t) (e_bin op_addA g_add (e_bv 1) e_int) (e_var 1))) (b_cons (s_asg sc_room_given.nd (e_sum rfl (by rfl) B.sum_ (e_lc (j := 0) rfl sc_room_given.nd (c_seq (e_sl (e_bv 0) (o_some (e_bv 2)) (o_some (e_bin op_addA g_add (e_bv 3) e_int)))) (blkOk_by (own := [("room", 5)]) rfl) (fun s H C cl fp => g_name sc_room_given.nd) (fun s H C cl fp => ts_nil) (fun s H C cl fp => e_ix ix_seq g_ix (e_bv 5) e_int)))) (b_one (s_ret (e_bin op_addA g_add (e_bin op_addA g_add (e_sl (e_bv 0) o_none (o_some (e_bv 2))) (e_tup (a_cons (e_tup (a_cons (e_var 4) (a_cons e_bl a_nil))) a_nil))) (e_sl (e_bv 0) (o_some (e_bin op_addA g_add (e_bv 3) e_int)) o_none))))))
set_option maxHeartbeats 1000000 in
theorem ok_law_run {f fd} (F : Fun K "_law_run" "_law_run" s_law_run f fd) (B : MG mg) (F_law_fit : FnG P w K mg base 1 "_law_fit" m_law_fit []) (F_law_like : FnG P w K mg base 7 "_law_like" m_law_like []) (F_law_place : FnG P w K mg base 1 "_law_place" m_law_place []) (F_law_given : FnG P w K mg base 1 "_law_given" m_law_given []) (F_lost_room : FnG P w K mg base 1 "lost_room" m_lost_room []) (F_first_room : FnG P w K mg base 1 "first_room" m_first_room []) (F_best_room : FnG P w K mg base 1 "best_room" m_best_room []) (F_room_taken : FnG P w K mg base 1 "room_taken" m_room_taken []) (F_room_given : FnG P w K mg base 1 "room_given" m_room_given []) : FnOk P w K mg base CX0 8 f fd ["way", "whole", "deeds"] (spD K m_law_run) :=
  fnM F sc_law_run fun cdv A outer s H hr => b_cons (s_par3 rfl sc_law_run.nd (a_cons (e_tup (a_cons (e_tup (a_cons (e_var 1) (a_cons e_bl a_nil))) a_nil)) (a_cons (e_lst a_nil) (a_cons (e_lst a_nil) a_nil)))) (b_cons (s_for PassesOwn.never rfl (i_seq (e_var 2)) (g_tup rfl (gs_cons (g_name sc_law_run.nd) (gs_cons (g_name sc_law_run.nd) gs_nil))) (b_cons (s_if (t_cmp (op_eqA hr.units) g_eq (e_bv 6) e_str) (b_cons (s_asg sc_law_run.nd (e_fn (F_law_fit.d (by omega)) hr (by rfl) (a_cons (e_bv 0) (a_cons (e_bv 3) (a_cons (e_bv 7) a_nil))) pass0)) (b_cons (s_if ((w_and (t_cmp (op_eqA hr.units) g_eq (e_bv 0) e_str) (w_and1 (t_not (t_val (e_fn (F_law_like.d (by omega)) hr (by rfl) (a_cons (e_fn (F_first_room.d (by omega)) hr (by rfl) (a_cons (e_bv 3) (a_cons (e_bv 7) a_nil)) pass0) (a_cons (e_bv 8) a_nil)) pass0))))).t) (b_one (s_ret e_non)) b_nil) (b_cons (s_if ((w_and (t_cmp (op_eqA hr.units) g_eq (e_bv 0) e_str) (w_and1 (t_not (t_val (e_fn (F_law_like.d (by omega)) hr (by rfl) (a_cons (e_fn (F_best_room.d (by omega)) hr (by rfl) (a_cons (e_bv 3) (a_cons (e_bv 7) a_nil)) pass0) (a_cons (e_bv 8) a_nil)) pass0))))).t) (b_one (s_ret e_non)) b_nil) (b_cons (s_app (e_cmp op_notN g_notN (e_bv 8) e_non)) (b_one (s_if (t_cmp op_isN g_isN (e_bv 8) e_non) (b_one (s_app e_non)) (b_cons (s_app (e_sum rfl (by rfl) B.sum_ (e_lc (j := 0) rfl sc_law_run.nd (c_seq (e_sl (e_bv 3) o_none (o_some (e_bv 8)))) (blkOk_by (own := [("size", 12), ("free", 11)]) rfl) (fun s H C cl fp => g_tup rfl (gs_cons (g_name sc_law_run.nd) (gs_cons (g_name sc_law_run.nd) gs_nil))) (fun s H C cl fp => ts_nil) (fun s H C cl fp => e_var 12)))) (b_cons (s_asg sc_law_run.nd (e_sl (e_tup (a_cons (e_tup (a_cons (e_var 7) (a_cons e_bl a_nil))) (a_cons (e_tup (a_cons (e_bin op_sub g_sub (e_ix ix_seq g_ix (e_ix ix_seq g_ix (e_bv 3) (e_bv 8)) e_int) (e_bv 7)) (a_cons e_bl a_nil))) a_nil))) o_none (o_some (e_bin op_addA g_add e_int (e_intF (by rfl) B.int_ (e_cmp op_gt g_cmpI (e_ix ix_seq g_ix (e_ix ix_seq g_ix (e_bv 3) (e_bv 8)) e_int) (e_bv 7))))))) (b_cons (s_asg sc_law_run.nd (e_bin op_addA g_add (e_bin op_addA g_add (e_sl (e_bv 3) o_none (o_some (e_bv 8))) (e_bv 9)) (e_sl (e_bv 3) (o_some (e_bin op_addA g_add (e_bv 8) e_int)) o_none))) (b_cons (s_if (t_not (t_val (e_fn (F_law_like.d (by omega)) hr (by rfl) (a_cons (e_fn (F_room_taken.d (by omega)) hr (by rfl) (a_cons (e_bv 3) (a_cons (e_bv 8) (a_cons (e_bv 7) a_nil))) pass0) (a_cons (e_bv 10) a_nil)) pass0))) (b_one (s_ret e_non)) b_nil) (b_one (s_asg sc_law_run.nd (e_var 10))))))))))))) (b_one (s_if ((w_and (t_cmp op_lt g_cmpI (e_bv 7) (e_len (by rfl) B.len_ (e_bv 5))) (w_and1 (t_val (e_ix ix_seq g_ix (e_bv 5) (e_bv 7))))).t) (b_cons (s_asg sc_law_run.nd (e_fn (F_law_place.d (by omega)) hr (by rfl) (a_cons (e_bv 3) (a_cons (e_ix ix_seq g_ix (e_bv 4) (e_bv 7)) a_nil)) pass0)) (b_cons (s_asg sc_law_run.nd (e_fn (F_law_given.d (by omega)) hr (by rfl) (a_cons (e_bv 3) (a_cons (e_bv 8) a_nil)) pass0)) (b_cons (s_if (t_not (t_val (e_fn (F_law_like.d (by omega)) hr (by rfl) (a_cons (e_fn (F_room_given.d (by omega)) hr (by rfl) (a_cons (e_bv 3) (a_cons (e_bv 8) a_nil)) pass0) (a_cons (e_bv 10) a_nil)) pass0))) (b_one (s_ret e_non)) b_nil) (b_one (s_parS (i := 5) (j := 3) rfl sc_law_run.nd (a_cons e_bl (a_cons (e_var 10) a_nil)) (e_bv 7)))))) b_nil))) (b_cons (s_setLc (j := 0) rfl sc_law_run.nd (by rfl) (c_seq (e_var 3)) (blkOk_by (own := [("size", 12), ("is_free", 13)]) rfl) (fun s H C cl fp => g_tup rfl (gs_cons (g_name sc_law_run.nd) (gs_cons (g_name sc_law_run.nd) gs_nil))) (fun s H C cl fp => ts_one (t_tru (e_bv 13))) (fun s H C cl fp => e_var 12)) (b_frz 11 (b_one (s_if (t_not (t_val (e_fn (F_law_like.d (by omega)) hr (by rfl) (a_cons (e_fn (F_lost_room.d (by omega)) hr (by rfl) (a_cons (e_bv 3) a_nil) pass0) (a_cons (e_bin op_sub g_sub (e_sum rfl (by rfl) B.sum_ (e_bv 11)) (e_max rfl (by rfl) B.max_ (e_bin op_addA g_add (e_bv 11) (e_lst (a_cons e_int a_nil))))) a_nil)) pass0))) (b_one (s_ret e_non)) b_nil)))))) (b_one (s_ret (e_tupOf (by rfl) B.tuple_ (e_bv 4)))))
set_option maxHeartbeats 1000000 in
theorem ok_begin_of {f fd} (F : Fun K "_begin_of" "_begin_of" s_begin_of f fd) (B : MG mg) : FnOk P w K mg base CX0 1 f fd ["rooms", "place"] (spD K m_begin_of) :=
  fnM F sc_begin_of fun cdv A outer s H hr => b_one (s_ret (e_sum rfl (by rfl) B.sum_ (e_lc (j := 0) rfl sc_begin_of.nd (c_seq (e_sl (e_bv 0) o_none (o_some (e_bv 1)))) (blkOk_by (own := [("room", 2)]) rfl) (fun s H C cl fp => g_name sc_begin_of.nd) (fun s H C cl fp => ts_nil) (fun s H C cl fp => e_ix ix_seq g_ix (e_bv 2) e_int))))
set_option maxHeartbeats 1000000 in
theorem ok_place_of {f fd} (F : Fun K "_place_of" "_place_of" s_place_of f fd) (B : MG mg) : FnOk P w K mg base CX0 1 f fd ["rooms", "begin", "size"] (spD K m_place_of) :=
  fnM F sc_place_of fun cdv A outer s H hr => b_cons (s_asg sc_place_of.nd e_int) (b_cons (s_for PassesOwn.never rfl (i_enum (by rfl) B.enumerate_ (e_var 0)) (g_tup rfl (gs_cons (g_name sc_place_of.nd) (gs_cons (g_tup rfl (gs_cons (g_name sc_place_of.nd) (gs_cons (g_name sc_place_of.nd) gs_nil))) gs_nil))) (b_cons (s_if ((w_and (t_cmp (op_eqA hr.units) g_eq (e_bv 3) (e_bv 1)) (w_and (t_cmp (op_eqA hr.units) g_eq (e_bv 5) (e_bv 2)) (w_and1 (t_not (t_tru (e_bv 6)))))).t) (b_one (s_ret (e_bv 4))) b_nil) (b_one (s_aug sc_place_of.nd ip_add g_addI (e_bv 5))))) (b_one (s_ret e_non)))
set_option maxHeartbeats 1000000 in
theorem ok_rooms_run {f fd} (F : Fun K "rooms_run" "rooms_run" s_rooms_run f fd) (B : MG mg) (F_first_room : FnG P w K mg base 1 "first_room" m_first_room []) (F_best_room : FnG P w K mg base 1 "best_room" m_best_room []) (F_room_taken : FnG P w K mg base 1 "room_taken" m_room_taken []) (F_room_given : FnG P w K mg base 1 "room_given" m_room_given []) (F_begin_of : FnG P w K mg base 1 "_begin_of" m_begin_of []) (F_place_of : FnG P w K mg base 1 "_place_of" m_place_of []) : FnOk P w K mg base CX0 2 f fd ["way", "whole", "deeds"] (spD K m_rooms_run) :=
  fnM F sc_rooms_run fun cdv A outer s H hr => b_cons (s_asg sc_rooms_run.nd (e_tup (a_cons (e_tup (a_cons (e_var 1) (a_cons e_bl a_nil))) a_nil))) (b_cons (s_asg sc_rooms_run.nd (e_lst a_nil)) (b_cons (s_asg sc_rooms_run.nd (e_dnewK (k := 0))) (b_cons (s_for PassesOwn.never rfl (i_seq (e_var 2)) (g_tup rfl (gs_cons (g_name sc_rooms_run.nd) (gs_cons (g_name sc_rooms_run.nd) gs_nil))) (b_one (s_if (t_cmp (op_eqA hr.units) g_eq (e_bv 6) e_str) (b_cons (s_asg sc_rooms_run.nd (e_if (t_cmp (op_eqA hr.units) g_eq (e_bv 0) e_str) (e_fn (F_first_room.d (by omega)) hr (by rfl) (a_cons (e_bv 3) (a_cons (e_bv 7) a_nil)) pass0) (e_fn (F_best_room.d (by omega)) hr (by rfl) (a_cons (e_bv 3) (a_cons (e_bv 7) a_nil)) pass0))) (b_one (s_if (t_cmp op_isN g_isN (e_bv 8) e_non) (b_one (s_app e_non)) (b_cons (s_put (hu_of hr) (e_var 7) (e_len (by rfl) B.len_ (e_bv 4))) (b_cons (s_app (e_fn (F_begin_of.d (by omega)) hr (by rfl) (a_cons (e_bv 3) (a_cons (e_bv 8) a_nil)) pass0)) (b_one (s_asg sc_rooms_run.nd (e_fn (F_room_taken.d (by omega)) hr (by rfl) (a_cons (e_bv 3) (a_cons (e_bv 8) (a_cons (e_bv 7) a_nil))) pass0)))))))) (b_one (s_if (t_din (hu_of hr) (e_bv 7) (e_bv 5)) (b_one (s_asgX sc_rooms_run.nd (x_fn (F_room_given.d (by omega)) hr (by rfl) (x_cons (e_bv 3) (x_one (x_fn (F_place_of.d (by omega)) hr (by rfl) (x_cons (e_bv 3) (x_cons (e_ix ix_seq g_ix (e_bv 4) (e_bv 7)) (x_one (x_dpop (i := 5) (e_bv 7))))) pass0))) pass0))) b_nil))))) (b_one (s_ret (e_tupOf (by rfl) B.tuple_ (e_bv 4)))))))
set_option maxHeartbeats 1000000 in
theorem ok_law_both {f fd} (F : Fun K "_law_both" "_law_both" s_law_both f fd) (B : MG mg) (F_law_run : FnG P w K mg base 8 "_law_run" m_law_run []) (F_law_like : FnG P w K mg base 7 "_law_like" m_law_like []) (F_rooms_run : FnG P w K mg base 2 "rooms_run" m_rooms_run []) : FnOk P w K mg base CX0 9 f fd ["whole", "deeds"] (spD K m_law_both) :=
  fnM F sc_law_both fun cdv A outer s H hr => b_cons (s_asg sc_law_both.nd (e_len (by rfl) B.len_ (e_lc (j := 0) rfl sc_law_both.nd (c_seq (e_var 1)) (blkOk_by (own := [("kind", 6), ("number", 7)]) rfl) (fun s H C cl fp => g_tup rfl (gs_cons (g_name sc_law_both.nd) (gs_cons (g_name sc_law_both.nd) gs_nil))) (fun s H C cl fp => ts_one (t_cmp (op_eqA hr.units) g_eq (e_bv 6) e_str)) (fun s H C cl fp => e_var 6)))) (b_cons (s_asg sc_law_both.nd (e_bin op_addA g_add (e_bin op_addA g_add (e_bv 1) (e_tupOf (by rfl) B.tuple_ (e_lc (j := 0) rfl sc_law_both.nd (c_range1 (by rfl) B.range_ (e_bv 2)) (blkOk_by (own := [("k", 8)]) rfl) (fun s H C cl fp => g_name sc_law_both.nd) (fun s H C cl fp => ts_nil) (fun s H C cl fp => e_tup (a_cons e_str (a_cons (e_var 8) a_nil)))))) (e_tup (a_cons (e_tup (a_cons e_str (a_cons (e_var 0) a_nil))) (a_cons (e_tup (a_cons e_str (a_cons e_int a_nil))) a_nil))))) (b_cons (s_for PassesOwn.never rfl (i_seq (e_tup (a_cons e_str (a_cons e_str a_nil)))) (g_name sc_law_both.nd) (b_cons (s_asg sc_law_both.nd (e_fn (F_law_run.d (by omega)) hr (by rfl) (a_cons (e_bv 4) (a_cons (e_bv 0) (a_cons (e_bv 3) a_nil))) pass0)) (b_cons (s_if ((w_or (t_cmp op_isN g_isN (e_bv 5) e_non) (w_or1 (t_cmp (op_neA hr.units) g_ne (e_sl (e_bv 5) (o_some (e_bv 2)) o_none) (e_tup (a_cons e_int (a_cons e_non a_nil)))))).t) (b_one (s_ret e_bl)) b_nil) (b_cons (s_if (t_not (t_val (e_fn (F_law_like.d (by omega)) hr (by rfl) (a_cons (e_fn (F_rooms_run.d (by omega)) hr (by rfl) (a_cons (e_bv 4) (a_cons (e_bv 0) (a_cons (e_bv 3) a_nil))) pass0) (a_cons (e_bv 5) a_nil)) pass0))) (b_one (s_ret e_bl)) b_nil) (b_one (s_if (t_not (t_val (e_fn (F_law_like.d (by omega)) hr (by rfl) (a_cons (e_fn (F_rooms_run.d (by omega)) hr (by rfl) (a_cons (e_bv 4) (a_cons (e_bv 0) (a_cons (e_bv 1) a_nil))) pass0) (a_cons (e_sl (e_bv 5) o_none (o_some (e_bv 2))) a_nil)) pass0))) (b_one (s_ret e_bl)) b_nil)))))) (b_one (s_ret e_bl))))
set_option maxHeartbeats 1000000 in
theorem ok_law_apart {f fd} (F : Fun K "_law_apart" "_law_apart" s_law_apart f fd) (B : MG mg) (F_law_like : FnG P w K mg base 7 "_law_like" m_law_like []) (F_rooms_run : FnG P w K mg base 2 "rooms_run" m_rooms_run []) : FnOk P w K mg base CX0 8 f fd ["row"] (spD K m_law_apart) :=
  fnM F sc_law_apart fun cdv A outer s H hr => b_cons (s_par3 rfl sc_law_apart.nd (a_cons (e_bin op_addA g_add e_int (e_bin op_mod g_mod (e_intF (by rfl) B.int_ (e_ix ix_seq g_ix (e_bv 0) e_int)) e_int)) (a_cons (e_bin op_addA g_add e_int (e_bin op_mod g_mod (e_intF (by rfl) B.int_ (e_ix ix_seq g_ix (e_bv 0) e_int)) e_int)) (a_cons (e_bin op_addA g_add e_int (e_bin op_mod g_mod (e_intF (by rfl) B.int_ (e_ix ix_seq g_ix (e_bv 0) e_int)) e_int)) a_nil)))) (b_cons (s_par3 rfl sc_law_apart.nd (a_cons (e_bin op_addA g_add e_int (e_bin op_mod g_mod (e_intF (by rfl) B.int_ (e_ix ix_seq g_ix (e_bv 0) e_int)) e_int)) (a_cons (e_bin op_addA g_add e_int (e_bin op_mod g_mod (e_intF (by rfl) B.int_ (e_ix ix_seq g_ix (e_bv 0) e_int)) e_int)) (a_cons (e_bin op_mul g_mulI (e_bin op_mod g_mod (e_intF (by rfl) B.int_ (e_ix ix_seq g_ix (e_bv 0) e_int)) e_int) (e_bin op_addA g_add e_int (e_bin op_mod g_mod (e_intF (by rfl) B.int_ (e_ix ix_seq g_ix (e_bv 0) e_int)) e_int))) a_nil)))) (b_cons (s_asg sc_law_apart.nd (e_tup (a_cons (e_tup (a_cons e_str (a_cons (e_var 1) a_nil))) (a_cons (e_tup (a_cons e_str (a_cons (e_var 4) a_nil))) (a_cons (e_tup (a_cons e_str (a_cons (e_var 2) a_nil))) (a_cons (e_tup (a_cons e_str (a_cons (e_var 5) a_nil))) (a_cons (e_tup (a_cons e_str (a_cons e_int a_nil))) (a_cons (e_tup (a_cons e_str (a_cons e_int a_nil))) (a_cons (e_tup (a_cons e_str (a_cons (e_var 3) a_nil))) a_nil))))))))) (b_cons (s_asg sc_law_apart.nd (e_bin op_addA g_add (e_bin op_addA g_add (e_bin op_addA g_add (e_bin op_addA g_add (e_bv 1) (e_bv 4)) (e_bv 2)) (e_bv 5)) (e_bv 6))) (b_cons (s_asg sc_law_apart.nd (e_tup (a_cons e_int (a_cons (e_var 1) (a_cons (e_bin op_addA g_add (e_bv 1) (e_bv 4)) (a_cons (e_bin op_addA g_add (e_bin op_addA g_add (e_bv 1) (e_bv 4)) (e_bv 2)) a_nil)))))) (b_cons (s_if (t_not (t_val (e_fn (F_law_like.d (by omega)) hr (by rfl) (a_cons (e_fn (F_rooms_run.d (by omega)) hr (by rfl) (a_cons e_str (a_cons (e_bv 8) (a_cons (e_bv 7) a_nil))) pass0) (a_cons (e_bin op_addA g_add (e_bv 9) (e_tup (a_cons e_int a_nil))) a_nil)) pass0))) (b_one (s_ret e_bl)) b_nil) (b_one (s_ret (e_fn (F_law_like.d (by omega)) hr (by rfl) (a_cons (e_fn (F_rooms_run.d (by omega)) hr (by rfl) (a_cons e_str (a_cons (e_bv 8) (a_cons (e_bv 7) a_nil))) pass0) (a_cons (e_bin op_addA g_add (e_bv 9) (e_tup (a_cons (e_bin op_addA g_add (e_bv 1) (e_bv 4)) a_nil))) a_nil)) pass0))))))))
set_option maxHeartbeats 1000000 in
theorem ok_linked {f fd} (F : Fun K "linked" "linked" s_linked f fd) (B : MG mg) : FnOk P w K mg base CX0 1 f fd ["parts", "order"] (spD K m_linked) :=
  fnM F sc_linked fun cdv A outer s H hr => b_cons (s_parN rfl (a_cons (e_dnewT (k := 0)) (a_cons (e_dnewK (k := 0)) (a_cons (e_dnewK (k := 0)) (a_cons e_int a_nil)))) ⟨pg_name (i := 2) sc_linked.nd rfl (by first | exact Or.inl rfl | exact Or.inr rfl), rfl, ⟨pg_name (i := 3) sc_linked.nd rfl (by first | exact Or.inl rfl | exact Or.inr rfl), rfl, ⟨pg_name (i := 4) sc_linked.nd rfl (by first | exact Or.inl rfl | exact Or.inr rfl), rfl, ⟨pg_name (i := 5) sc_linked.nd rfl (by first | exact Or.inl rfl | exact Or.inr rfl), rfl, trivial⟩⟩⟩⟩) (b_cons (s_for PassesOwn.never rfl (i_seq (e_var 1)) (g_name sc_linked.nd) (b_cons (s_asgT (e_ix ix_seq g_ix (e_bv 0) (e_bv 6)) (g_tup rfl (gs_cons (g_name sc_linked.nd) (gs_cons (g_name sc_linked.nd) (gs_cons (g_name sc_linked.nd) gs_nil))))) (b_cons (s_for PassesOwn.never rfl (i_seq (e_var 7)) (g_name sc_linked.nd) (b_cons (s_put (hu_of hr) e_bl (e_tup (a_cons (e_var 10) (a_cons (e_var 5) a_nil)))) (b_one (s_put (hu_of hr) (e_bin op_addA g_add (e_dget2 (hu_of hr) (e_bv 3) (e_bv 10) e_int) e_int) (e_bv 10))))) (b_cons (s_for PassesOwn.never rfl (i_seq (e_var 8)) (g_name sc_linked.nd) (b_one (s_put (hu_of hr) e_bl (e_bv 10)))) (b_one (s_aug sc_linked.nd ip_add g_addI (e_bv 9))))))) (b_frz 4 (b_frz 3 (b_cons (s_asg sc_linked.nd (e_bin op_addA g_add (e_lcD (i := 3) (j := 0) rfl sc_linked.nd (blkOk_by (own := [("name", 10)]) rfl) (fun s H C cl fp => g_name sc_linked.nd) (fun s H C cl fp => ts_one (t_cmp op_gt g_cmpI (e_dget (hu_of hr) (e_bv 3) (e_bv 10)) e_int)) (fun s H C cl fp => e_var 10)) (e_lcD (i := 4) (j := 0) rfl sc_linked.nd (blkOk_by (own := [("name", 10)]) rfl) (fun s H C cl fp => g_name sc_linked.nd) (fun s H C cl fp => ts_one (t_dnotin (hu_of hr) (e_bv 10) (e_bv 3))) (fun s H C cl fp => e_var 10)))) (b_one (s_ret (e_tup (a_cons (e_tupOf (by rfl) B.tuple_ (e_sortedD rfl hr.units (by rfl) B.sorted_ (e_bv 2))) (a_cons (e_tupOf (by rfl) B.tuple_ (e_sorted hr.units (by rfl) B.sorted_ (e_bv 11))) a_nil)))))))))
set_option maxHeartbeats 1000000 in
theorem ok_needed_parts {f fd} (F : Fun K "needed_parts" "needed_parts" s_needed_parts f fd) (B : MG mg) : FnOk P w K mg base CX0 1 f fd ["parts", "first"] (spD K m_needed_parts) :=
  fnM F sc_needed_parts fun cdv A outer s H hr => b_cons (s_asg sc_needed_parts.nd (e_dnewK (k := 1))) (b_cons (s_for PassesOwn.never rfl (i_enum (by rfl) B.enumerate_ (e_var 0)) (g_tup rfl (gs_cons (g_name sc_needed_parts.nd) (gs_cons (g_name sc_needed_parts.nd) gs_nil))) (b_one (s_for PassesOwn.never rfl (i_seq (e_ix ix_seq g_ix (e_bv 4) e_int)) (g_name sc_needed_parts.nd) (b_one (s_setApp (i := 2) (m := 3) (e_bv 5)))))) (b_frz 2 (b_cons (s_par2 rfl sc_needed_parts.nd (a_cons (e_disp1 (e_bv 1) e_bl) (a_cons (e_lst (a_cons (e_var 1) a_nil)) a_nil))) (b_cons (s_while PassesOwn.never (t_tru (e_bv 7)) (b_cons (s_popIx (i := 7) (j := 4) (m := 0) sc_needed_parts.nd) (b_one (s_for PassesOwn.never rfl (i_seq (e_ix ix_seq g_ix (e_bv 4) e_int)) (g_name sc_needed_parts.nd) (b_one (s_for PassesOwn.never rfl (i_seq (e_dget2 (hu_of hr) (e_bv 2) (e_bv 5) (e_tup a_nil))) (g_name sc_needed_parts.nd) (b_one (s_if (t_dnotin (hu_of hr) (e_bv 3) (e_bv 6)) (b_cons (s_put (hu_of hr) e_bl (e_bv 3)) (b_one (s_app (e_var 3)))) b_nil)))))))) (b_one (s_ret (e_tupOf (by rfl) B.tuple_ (e_sortedD rfl hr.units (by rfl) B.sorted_ (e_bv 6)))))))))
set_option maxHeartbeats 1000000 in
theorem ok_law_links {f fd} (F : Fun K "_law_links" "_law_links" s_law_links f fd) (B : MG mg) (F_linked : FnG P w K mg base 1 "linked" m_linked []) (F_law_like : FnG P w K mg base 7 "_law_like" m_law_like []) (F_needed_parts : FnG P w K mg base 1 "needed_parts" m_needed_parts []) (F_rooms_run : FnG P w K mg base 2 "rooms_run" m_rooms_run []) : FnOk P w K mg base CX0 8 f fd ["row"] (spD K m_law_links) :=
  fnM F sc_law_links fun cdv A outer s H hr => b_cons (s_parN rfl (a_cons (e_lst a_nil) (a_cons (e_bin op_addA g_add e_int (e_bin op_mod g_mod (e_intF (by rfl) B.int_ (e_ix ix_seq g_ix (e_bv 0) e_int)) e_int)) a_nil)) ⟨pg_name (i := 1) sc_law_links.nd rfl (by first | exact Or.inl rfl | exact Or.inr rfl), rfl, ⟨pg_name (i := 2) sc_law_links.nd rfl (by first | exact Or.inl rfl | exact Or.inr rfl), rfl, trivial⟩⟩) (b_cons (s_for PassesOwn.never rfl (i_range1 (by rfl) B.range_ (e_bv 2)) (g_name sc_law_links.nd) (b_cons (s_par2 rfl sc_law_links.nd (a_cons (e_intF (by rfl) B.int_ (e_ix ix_seq g_ix (e_bv 0) (e_bin op_addA g_add e_int (e_bv 3)))) (a_cons (e_intF (by rfl) B.int_ (e_ix ix_seq g_ix (e_bv 0) (e_bin op_addA g_add e_int (e_bv 3)))) a_nil))) (b_cons (s_asg sc_law_links.nd (e_bin op_addA g_add (e_lst (a_cons (e_ix ix_seq g_ix e_str (e_bv 3)) a_nil)) (e_bin op_rep g_mulL (e_lst (a_cons (e_ix ix_seq g_ix e_str (e_bin op_mod g_mod (e_bin op_fdiv g_fdiv (e_bv 4) e_int) e_int)) a_nil)) (e_intF (by rfl) B.int_ (e_cmp (op_eqA hr.units) g_eq (e_bin op_mod g_mod (e_bv 4) e_int) e_int))))) (b_cons (s_asg sc_law_links.nd (e_sl (e_lst (a_cons (e_ix ix_seq g_ix e_str (e_bin op_mod g_mod (e_bv 5) (e_bin op_addA g_add (e_bv 2) (e_bin op_mod g_mod (e_intF (by rfl) B.int_ (e_ix ix_seq g_ix (e_bv 0) e_int)) e_int)))) (a_cons (e_ix ix_seq g_ix e_str (e_bin op_mod g_mod (e_bin op_fdiv g_fdiv (e_bv 5) e_int) (e_bv 2))) a_nil))) o_none (o_some (e_bin op_mod g_mod (e_bin op_fdiv g_fdiv (e_bv 5) e_int) e_int)))) (b_one (s_app (e_tup (a_cons (e_tupOf (by rfl) B.tuple_ (e_setSort rfl (hu65 hr) (by rfl) B.sorted_ (by rfl) B.set_ (e_bv 6))) (a_cons (e_tupOf (by rfl) B.tuple_ (e_setSort rfl (hu65 hr) (by rfl) B.sorted_ (by rfl) B.set_ (e_bv 7))) (a_cons (e_bin op_addA g_add e_int (e_bin op_mod g_mod (e_bin op_fdiv g_fdiv (e_bv 4) e_int) e_int)) a_nil)))))))))) (b_cons (s_par2 rfl sc_law_links.nd (a_cons (e_lst a_nil) (a_cons (e_lstRg1 rfl (by rfl) B.list_ (by rfl) B.range_ (e_bv 2)) a_nil))) (b_cons (s_for PassesOwn.never rfl (i_range1 (by rfl) B.range_ (e_bv 2)) (g_name sc_law_links.nd) (b_cons (s_asg sc_law_links.nd (e_bin op_mod g_mod (e_intF (by rfl) B.int_ (e_ix ix_seq g_ix (e_bv 0) (e_bin op_addA g_add e_int (e_bv 3)))) (e_len (by rfl) B.len_ (e_bv 9)))) (b_cons (s_app (e_ix ix_seq g_ix (e_bv 9) (e_bv 10))) (b_one (s_asg sc_law_links.nd (e_bin op_addA g_add (e_sl (e_bv 9) o_none (o_some (e_bv 10))) (e_sl (e_bv 9) (o_some (e_bin op_addA g_add (e_bv 10) e_int)) o_none))))))) (b_cons (s_parN rfl (a_cons (e_lst a_nil) (a_cons (e_lst a_nil) (a_cons (e_lst a_nil) (a_cons e_int (a_cons (e_lst a_nil) a_nil))))) ⟨pg_name (i := 11) sc_law_links.nd rfl (by first | exact Or.inl rfl | exact Or.inr rfl), rfl, ⟨pg_name (i := 12) sc_law_links.nd rfl (by first | exact Or.inl rfl | exact Or.inr rfl), rfl, ⟨pg_name (i := 13) sc_law_links.nd rfl (by first | exact Or.inl rfl | exact Or.inr rfl), rfl, ⟨pg_name (i := 14) sc_law_links.nd rfl (by first | exact Or.inl rfl | exact Or.inr rfl), rfl, ⟨pg_name (i := 15) sc_law_links.nd rfl (by first | exact Or.inl rfl | exact Or.inr rfl), rfl, trivial⟩⟩⟩⟩⟩) (b_frz 8 (b_cons (s_for PassesOwn.never rfl (i_seq (e_var 8)) (g_name sc_law_links.nd) (b_cons (s_extT (i := 11) (e_ix ix_seq g_ix (e_ix ix_seq g_ix (e_bv 1) (e_bv 16)) e_int)) (b_cons (s_extT (i := 12) (e_ix ix_seq g_ix (e_ix ix_seq g_ix (e_bv 1) (e_bv 16)) e_int)) (b_cons (s_ext (e_lc (j := 0) rfl sc_law_links.nd (c_seq (e_ix ix_seq g_ix (e_ix ix_seq g_ix (e_bv 1) (e_bv 16)) e_int)) (blkOk_by (own := [("name", 25)]) rfl) (fun s H C cl fp => g_name sc_law_links.nd) (fun s H C cl fp => ts_nil) (fun s H C cl fp => e_tup (a_cons (e_var 25) (a_cons (e_var 14) a_nil))))) (b_cons (s_app (e_var 14)) (b_one (s_asg sc_law_links.nd (e_bin op_addA g_add (e_bv 14) (e_ix ix_seq g_ix (e_ix ix_seq g_ix (e_bv 1) (e_bv 16)) e_int))))))))) (b_cons (s_asg sc_law_links.nd (e_bin op_addA g_add (e_lc (j := 0) rfl sc_law_links.nd (c_list (e_bv 11)) (blkOk_by (own := [("name", 25)]) rfl) (fun s H C cl fp => g_name sc_law_links.nd) (fun s H C cl fp => ts_one (t_cmp op_gt g_cmpI (e_count (hu65 hr) (e_bv 11) (e_bv 25)) e_int)) (fun s H C cl fp => e_var 25)) (e_lc (j := 0) rfl sc_law_links.nd (c_list (e_bv 12)) (blkOk_by (own := [("name", 25)]) rfl) (fun s H C cl fp => g_name sc_law_links.nd) (fun s H C cl fp => ts_one (t_cmp op_notIn_seq (g_in true) (e_bv 25) (e_bv 11))) (fun s H C cl fp => e_var 25)))) (b_cons (s_asgT (e_fn (F_linked.d (by omega)) hr (by rfl) (a_cons (e_tupOf (by rfl) B.tuple_ (e_bv 1)) (a_cons (e_tupOf (by rfl) B.tuple_ (e_bv 8)) a_nil)) pass0) (g_tup rfl (gs_cons (g_name sc_law_links.nd) (gs_cons (g_name sc_law_links.nd) gs_nil)))) (b_cons (s_asg sc_law_links.nd (e_tupOf (by rfl) B.tuple_ (e_lc (j := 0) rfl sc_law_links.nd (c_seq (e_var 18)) (blkOk_by (own := [("pair", 26)]) rfl) (fun s H C cl fp => g_name sc_law_links.nd) (fun s H C cl fp => ts_one (t_cmp op_notIn_seq (g_in true) (e_ix ix_seq g_ix (e_bv 26) e_int) (e_bv 17))) (fun s H C cl fp => e_var 26)))) (b_cons (s_if (t_not (t_val (e_fn (F_law_like.d (by omega)) hr (by rfl) (a_cons (e_bv 20) (a_cons (e_tupOf (by rfl) B.tuple_ (e_sorted hr.units (by rfl) B.sorted_ (e_lc (j := 0) rfl sc_law_links.nd (c_list (e_bv 13)) (blkOk_by (own := [("pair", 26)]) rfl) (fun s H C cl fp => g_name sc_law_links.nd) (fun s H C cl fp => ts_one (t_cmp op_notIn_seq (g_in true) (e_ix ix_seq g_ix (e_bv 26) e_int) (e_bv 17))) (fun s H C cl fp => e_var 26)))) a_nil)) pass0))) (b_one (s_ret e_bl)) b_nil) (b_cons (s_if (t_not (t_val (e_fn (F_law_like.d (by omega)) hr (by rfl) (a_cons (e_bv 19) (a_cons (e_tupOf (by rfl) B.tuple_ (e_setSort rfl (hu65 hr) (by rfl) B.sorted_ (by rfl) B.set_ (e_bv 17))) a_nil)) pass0))) (b_one (s_ret e_bl)) b_nil) (b_cons (s_asg sc_law_links.nd (e_tupOf (by rfl) B.tuple_ (e_lc (j := 0) rfl sc_law_links.nd (c_seq (e_var 8)) (blkOk_by (own := [("at", 16)]) rfl) (fun s H C cl fp => g_name sc_law_links.nd) (fun s H C cl fp => ts_nil) (fun s H C cl fp => e_tup (a_cons e_str (a_cons (e_ix ix_seq g_ix (e_ix ix_seq g_ix (e_bv 1) (e_bv 16)) e_int) a_nil)))))) (b_cons (s_for PassesOwn.never rfl (i_seq (e_tup (a_cons e_str (a_cons e_str a_nil)))) (g_name sc_law_links.nd) (b_one (s_if (t_not (t_val (e_fn (F_law_like.d (by omega)) hr (by rfl) (a_cons (e_fn (F_rooms_run.d (by omega)) hr (by rfl) (a_cons (e_bv 22) (a_cons (e_bin op_addA g_add (e_bv 14) (e_bin op_mod g_mod (e_intF (by rfl) B.int_ (e_ix ix_seq g_ix (e_bv 0) e_int)) e_int)) (a_cons (e_bv 21) a_nil))) pass0) (a_cons (e_tupOf (by rfl) B.tuple_ (e_bv 15)) a_nil)) pass0))) (b_one (s_ret e_bl)) b_nil))) (b_cons (s_if (t_cmp op_lt g_cmpI (e_setLen rfl (by rfl) B.len_ (by rfl) B.set_ (e_bv 11)) (e_len (by rfl) B.len_ (e_bv 11))) (b_one (s_ret e_bl)) b_nil) (b_cons (s_asg sc_law_links.nd (e_lst (a_cons (e_bin op_mod g_mod (e_intF (by rfl) B.int_ (e_ix ix_seq g_ix (e_bv 0) e_int)) (e_bv 2)) a_nil))) (b_cons (s_for PassesOwn.never rfl (i_range1 (by rfl) B.range_ (e_bv 2)) (g_name sc_law_links.nd) (b_cons (s_asg sc_law_links.nd (e_lst a_nil)) (b_frz 23 (b_cons (s_for PassesOwn.never rfl (i_seq (e_var 23)) (g_name sc_law_links.nd) (b_one (s_extT (i := 7) (e_ix ix_seq g_ix (e_ix ix_seq g_ix (e_bv 1) (e_bv 16)) e_int)))) (b_one (s_asg sc_law_links.nd (e_setSort rfl (hu65 hr) (by rfl) B.sorted_ (by rfl) B.set_ (e_bin op_addA g_add (e_bv 23) (e_lc (j := 0) rfl sc_law_links.nd (c_range1 (by rfl) B.range_ (e_bv 2)) (blkOk_by (own := [("at", 16)]) rfl) (fun s H C cl fp => g_name sc_law_links.nd) (fun s H C cl fp => ts_one (t_val (e_any rfl (by rfl) B.any_ (e_lc (j := 0) rfl sc_law_links.nd (c_seq (e_ix ix_seq g_ix (e_ix ix_seq g_ix (e_bv 1) (e_bv 16)) e_int)) (blkOk_by (own := [("name", 25)]) rfl) (fun s H C cl fp => g_name sc_law_links.nd) (fun s H C cl fp => ts_nil) (fun s H C cl fp => e_cmp op_in_seq (g_in false) (e_bv 25) (e_bv 7)))))) (fun s H C cl fp => e_var 16)))))))))) (b_one (s_ret (e_fn (F_law_like.d (by omega)) hr (by rfl) (a_cons (e_fn (F_needed_parts.d (by omega)) hr (by rfl) (a_cons (e_tupOf (by rfl) B.tuple_ (e_bv 1)) (a_cons (e_bin op_mod g_mod (e_intF (by rfl) B.int_ (e_ix ix_seq g_ix (e_bv 0) e_int)) (e_bv 2)) a_nil)) pass0) (a_cons (e_tupOf (by rfl) B.tuple_ (e_bv 23)) a_nil)) pass0)))))))))))))))))))
set_option maxHeartbeats 1000000 in
theorem ok_law_deeds {f fd} (F : Fun K "_law_deeds" "_law_deeds" s_law_deeds f fd) (B : MG mg) : FnOk P w K mg base CX0 1 f fd ["row"] (spD K m_law_deeds) :=
  fnM F sc_law_deeds fun cdv A outer s H hr => b_cons (s_par2 rfl sc_law_deeds.nd (a_cons (e_lst a_nil) (a_cons e_int a_nil))) (b_cons (s_for PassesOwn.never rfl (i_range1 (by rfl) B.range_ (e_bin op_mod g_mod (e_intF (by rfl) B.int_ (e_ix ix_seq g_ix (e_bv 0) e_int)) e_int)) (g_name sc_law_deeds.nd) (b_cons (s_asg sc_law_deeds.nd (e_intF (by rfl) B.int_ (e_ix ix_seq g_ix (e_bv 0) (e_bin op_addA g_add e_int (e_bv 3))))) (b_one (s_if ((w_or (t_cmp op_lt g_cmpI (e_bin op_mod g_mod (e_bv 4) e_int) e_int) (w_or1 (t_cmp (op_eqA hr.units) g_eq (e_bv 2) e_int))).t) (b_cons (s_app (e_tup (a_cons e_str (a_cons (e_bin op_addA g_add e_int (e_bin op_mod g_mod (e_bin op_fdiv g_fdiv (e_bv 4) e_int) e_int)) a_nil)))) (b_one (s_asg sc_law_deeds.nd (e_bin op_addA g_add (e_bv 2) e_int)))) (b_one (s_app (e_tup (a_cons e_str (a_cons (e_ix ix_seq g_ix (e_tup (a_cons (e_bin op_mod g_mod (e_bin op_fdiv g_fdiv (e_bv 4) e_int) (e_bv 2)) (a_cons (e_bin op_addA g_add e_int (e_bv 2)) a_nil))) (e_intF (by rfl) B.int_ (e_cmp (op_eqA hr.units) g_eq (e_bin op_mod g_mod (e_bin op_fdiv g_fdiv (e_bv 4) e_int) e_int) e_int))) a_nil))))))))) (b_one (s_ret (e_tupOf (by rfl) B.tuple_ (e_bv 1)))))
set_option maxHeartbeats 1000000 in
theorem ok_law {f fd} (F : Fun K "law" "law" s_law f fd) (B : MG mg) (F_law_row : FnG P w K mg base 2 "_law_row" m_law_row []) (F_law_both : FnG P w K mg base 9 "_law_both" m_law_both []) (F_law_apart : FnG P w K mg base 8 "_law_apart" m_law_apart []) (F_law_links : FnG P w K mg base 8 "_law_links" m_law_links []) (F_law_deeds : FnG P w K mg base 1 "_law_deeds" m_law_deeds []) : FnOk P w K mg base CX0 10 f fd ["script"] (spD K m_law) :=
  fnM F sc_law fun cdv A outer s H hr => b_cons (s_asg sc_law.nd (e_fn (F_law_row.d (by omega)) hr (by rfl) (a_cons (e_bv 0) (a_cons e_int a_nil)) pass0)) (b_cons (s_if (t_not (t_val (e_fn (F_law_both.d (by omega)) hr (by rfl) (a_cons (e_bin op_addA g_add e_int (e_bin op_mod g_mod (e_intF (by rfl) B.int_ (e_ix ix_seq g_ix (e_bv 1) e_int)) e_int)) (a_cons (e_fn (F_law_deeds.d (by omega)) hr (by rfl) (a_cons (e_bv 1) a_nil) pass0) a_nil)) pass0))) (b_one (s_ret e_bl)) b_nil) (b_one (s_ret (e_and (e_fn (F_law_apart.d (by omega)) hr (by rfl) (a_cons (e_bv 1) a_nil) pass0) (e_one (e_fn (F_law_links.d (by omega)) hr (by rfl) (a_cons (e_bv 1) a_nil) pass0))))))
end
end K38
set_option Elab.async false
set_option linter.all false
set_option maxRecDepth 100000
namespace K38
open PySem PySem.Spec PyProof.Rows L2 Pv
theorem ret_bl {K : PySem.W.Frag} {H H' : Hp} {b : Bool} {v : V} (h : RetOk K H (0, .bl b) v H') : v = .bl b := by obtain ⟨G, F, _, _, r, _⟩ := h; exact r.bl
set_option maxHeartbeats 0 in
theorem all_mk {l : PySem.W.OpenLaw} {w : World} {K : PySem.W.Frag} {h : Heap} {mg : Str → Option Value} {fa : Addr} (X : K.In h) (G : h.Ns mainGlobals mg) (hfa : mg "law" = some (.ref fa))
    {f0 : Addr} {od0 an0 : Option Addr} {sl0 : Array (Option Value)} {oc0 kV0 dc0 pm0 cd0 ct0 : Value}
    {f1 : Addr} {od1 an1 : Option Addr} {sl1 : Array (Option Value)} {oc1 kV1 dc1 pm1 cd1 ct1 : Value}
    {f2 : Addr} {od2 an2 : Option Addr} {sl2 : Array (Option Value)} {oc2 kV2 dc2 pm2 cd2 ct2 : Value}
    {f3 : Addr} {od3 an3 : Option Addr} {sl3 : Array (Option Value)} {oc3 kV3 dc3 pm3 cd3 ct3 : Value}
    {f4 : Addr} {od4 an4 : Option Addr} {sl4 : Array (Option Value)} {oc4 kV4 dc4 pm4 cd4 ct4 : Value}
    {f5 : Addr} {od5 an5 : Option Addr} {sl5 : Array (Option Value)} {oc5 kV5 dc5 pm5 cd5 ct5 : Value}
    {f6 : Addr} {od6 an6 : Option Addr} {sl6 : Array (Option Value)} {oc6 kV6 dc6 pm6 cd6 ct6 : Value}
    {f7 : Addr} {od7 an7 : Option Addr} {sl7 : Array (Option Value)} {oc7 kV7 dc7 pm7 cd7 ct7 : Value}
    {f8 : Addr} {od8 an8 : Option Addr} {sl8 : Array (Option Value)} {oc8 kV8 dc8 pm8 cd8 ct8 : Value}
    {f9 : Addr} {od9 an9 : Option Addr} {sl9 : Array (Option Value)} {oc9 kV9 dc9 pm9 cd9 ct9 : Value}
    {f10 : Addr} {od10 an10 : Option Addr} {sl10 : Array (Option Value)} {oc10 kV10 dc10 pm10 cd10 ct10 : Value}
    {f11 : Addr} {od11 an11 : Option Addr} {sl11 : Array (Option Value)} {oc11 kV11 dc11 pm11 cd11 ct11 : Value}
    {f12 : Addr} {od12 an12 : Option Addr} {sl12 : Array (Option Value)} {oc12 kV12 dc12 pm12 cd12 ct12 : Value}
    {f13 : Addr} {od13 an13 : Option Addr} {sl13 : Array (Option Value)} {oc13 kV13 dc13 pm13 cd13 ct13 : Value}
    {f14 : Addr} {od14 an14 : Option Addr} {sl14 : Array (Option Value)} {oc14 kV14 dc14 pm14 cd14 ct14 : Value}
    {f15 : Addr} {od15 an15 : Option Addr} {sl15 : Array (Option Value)} {oc15 kV15 dc15 pm15 cd15 ct15 : Value}
    {f16 : Addr} {od16 an16 : Option Addr} {sl16 : Array (Option Value)} {oc16 kV16 dc16 pm16 cd16 ct16 : Value}
    {f17 : Addr} {od17 an17 : Option Addr} {sl17 : Array (Option Value)} {oc17 kV17 dc17 pm17 cd17 ct17 : Value}
    {f18 : Addr} {od18 an18 : Option Addr} {sl18 : Array (Option Value)} {oc18 kV18 dc18 pm18 cd18 ct18 : Value}
    {f19 : Addr} {od19 an19 : Option Addr} {sl19 : Array (Option Value)} {oc19 kV19 dc19 pm19 cd19 ct19 : Value}
    {f20 : Addr} {od20 an20 : Option Addr} {sl20 : Array (Option Value)} {oc20 kV20 dc20 pm20 cd20 ct20 : Value}
    {f21 : Addr} {od21 an21 : Option Addr} {sl21 : Array (Option Value)} {oc21 kV21 dc21 pm21 cd21 ct21 : Value}
    {f22 : Addr} {od22 an22 : Option Addr} {sl22 : Array (Option Value)} {oc22 kV22 dc22 pm22 cd22 ct22 : Value}
    (a0 : PySem.W.nsIn K mainGlobals "_law_mixed" = some (some (.ref f0))) (l0 : K.lookup f0 = some ⟨oc0, od0, .func (PySem.W.fnOf "_law_mixed" "_law_mixed" (defArgs s_law_mixed) (defBody s_law_mixed) (defScope s_law_mixed) .none kV0 dc0 pm0 an0 cd0 ct0), sl0⟩) (c0 : PySem.W.codeIn K cd0 "_law_mixed" = true) (k0 : PySem.W.keepIn K (.ref f0) = true)
    (a1 : PySem.W.nsIn K mainGlobals "_law_row" = some (some (.ref f1))) (l1 : K.lookup f1 = some ⟨oc1, od1, .func (PySem.W.fnOf "_law_row" "_law_row" (defArgs s_law_row) (defBody s_law_row) (defScope s_law_row) .none kV1 dc1 pm1 an1 cd1 ct1), sl1⟩) (c1 : PySem.W.codeIn K cd1 "_law_row" = true) (k1 : PySem.W.keepIn K (.ref f1) = true)
    (a2 : PySem.W.nsIn K mainGlobals "_law_fit" = some (some (.ref f2))) (l2 : K.lookup f2 = some ⟨oc2, od2, .func (PySem.W.fnOf "_law_fit" "_law_fit" (defArgs s_law_fit) (defBody s_law_fit) (defScope s_law_fit) .none kV2 dc2 pm2 an2 cd2 ct2), sl2⟩) (c2 : PySem.W.codeIn K cd2 "_law_fit" = true) (k2 : PySem.W.keepIn K (.ref f2) = true)
    (a3 : PySem.W.nsIn K mainGlobals "_law_is_int" = some (some (.ref f3))) (l3 : K.lookup f3 = some ⟨oc3, od3, .func (PySem.W.fnOf "_law_is_int" "_law_is_int" (defArgs s_law_is_int) (defBody s_law_is_int) (defScope s_law_is_int) .none kV3 dc3 pm3 an3 cd3 ct3), sl3⟩) (c3 : PySem.W.codeIn K cd3 "_law_is_int" = true) (k3 : PySem.W.keepIn K (.ref f3) = true)
    (a4 : PySem.W.nsIn K mainGlobals "_law_like" = some (some (.ref f4))) (l4 : K.lookup f4 = some ⟨oc4, od4, .func (PySem.W.fnOf "_law_like" "_law_like" (defArgs s_law_like) (defBody s_law_like) (defScope s_law_like) .none kV4 dc4 pm4 an4 cd4 ct4), sl4⟩) (c4 : PySem.W.codeIn K cd4 "_law_like" = true) (k4 : PySem.W.keepIn K (.ref f4) = true)
    (a5 : PySem.W.nsIn K mainGlobals "_law_place" = some (some (.ref f5))) (l5 : K.lookup f5 = some ⟨oc5, od5, .func (PySem.W.fnOf "_law_place" "_law_place" (defArgs s_law_place) (defBody s_law_place) (defScope s_law_place) .none kV5 dc5 pm5 an5 cd5 ct5), sl5⟩) (c5 : PySem.W.codeIn K cd5 "_law_place" = true) (k5 : PySem.W.keepIn K (.ref f5) = true)
    (a6 : PySem.W.nsIn K mainGlobals "_law_given" = some (some (.ref f6))) (l6 : K.lookup f6 = some ⟨oc6, od6, .func (PySem.W.fnOf "_law_given" "_law_given" (defArgs s_law_given) (defBody s_law_given) (defScope s_law_given) .none kV6 dc6 pm6 an6 cd6 ct6), sl6⟩) (c6 : PySem.W.codeIn K cd6 "_law_given" = true) (k6 : PySem.W.keepIn K (.ref f6) = true)
    (a7 : PySem.W.nsIn K mainGlobals "lost_room" = some (some (.ref f7))) (l7 : K.lookup f7 = some ⟨oc7, od7, .func (PySem.W.fnOf "lost_room" "lost_room" (defArgs s_lost_room) (defBody s_lost_room) (defScope s_lost_room) .none kV7 dc7 pm7 an7 cd7 ct7), sl7⟩) (c7 : PySem.W.codeIn K cd7 "lost_room" = true) (k7 : PySem.W.keepIn K (.ref f7) = true)
    (a8 : PySem.W.nsIn K mainGlobals "first_room" = some (some (.ref f8))) (l8 : K.lookup f8 = some ⟨oc8, od8, .func (PySem.W.fnOf "first_room" "first_room" (defArgs s_first_room) (defBody s_first_room) (defScope s_first_room) .none kV8 dc8 pm8 an8 cd8 ct8), sl8⟩) (c8 : PySem.W.codeIn K cd8 "first_room" = true) (k8 : PySem.W.keepIn K (.ref f8) = true)
    (a9 : PySem.W.nsIn K mainGlobals "best_room" = some (some (.ref f9))) (l9 : K.lookup f9 = some ⟨oc9, od9, .func (PySem.W.fnOf "best_room" "best_room" (defArgs s_best_room) (defBody s_best_room) (defScope s_best_room) .none kV9 dc9 pm9 an9 cd9 ct9), sl9⟩) (c9 : PySem.W.codeIn K cd9 "best_room" = true) (k9 : PySem.W.keepIn K (.ref f9) = true)
    (a10 : PySem.W.nsIn K mainGlobals "room_taken" = some (some (.ref f10))) (l10 : K.lookup f10 = some ⟨oc10, od10, .func (PySem.W.fnOf "room_taken" "room_taken" (defArgs s_room_taken) (defBody s_room_taken) (defScope s_room_taken) .none kV10 dc10 pm10 an10 cd10 ct10), sl10⟩) (c10 : PySem.W.codeIn K cd10 "room_taken" = true) (k10 : PySem.W.keepIn K (.ref f10) = true)
    (a11 : PySem.W.nsIn K mainGlobals "room_given" = some (some (.ref f11))) (l11 : K.lookup f11 = some ⟨oc11, od11, .func (PySem.W.fnOf "room_given" "room_given" (defArgs s_room_given) (defBody s_room_given) (defScope s_room_given) .none kV11 dc11 pm11 an11 cd11 ct11), sl11⟩) (c11 : PySem.W.codeIn K cd11 "room_given" = true) (k11 : PySem.W.keepIn K (.ref f11) = true)
    (a12 : PySem.W.nsIn K mainGlobals "_law_run" = some (some (.ref f12))) (l12 : K.lookup f12 = some ⟨oc12, od12, .func (PySem.W.fnOf "_law_run" "_law_run" (defArgs s_law_run) (defBody s_law_run) (defScope s_law_run) .none kV12 dc12 pm12 an12 cd12 ct12), sl12⟩) (c12 : PySem.W.codeIn K cd12 "_law_run" = true) (k12 : PySem.W.keepIn K (.ref f12) = true)
    (a13 : PySem.W.nsIn K mainGlobals "_begin_of" = some (some (.ref f13))) (l13 : K.lookup f13 = some ⟨oc13, od13, .func (PySem.W.fnOf "_begin_of" "_begin_of" (defArgs s_begin_of) (defBody s_begin_of) (defScope s_begin_of) .none kV13 dc13 pm13 an13 cd13 ct13), sl13⟩) (c13 : PySem.W.codeIn K cd13 "_begin_of" = true) (k13 : PySem.W.keepIn K (.ref f13) = true)
    (a14 : PySem.W.nsIn K mainGlobals "_place_of" = some (some (.ref f14))) (l14 : K.lookup f14 = some ⟨oc14, od14, .func (PySem.W.fnOf "_place_of" "_place_of" (defArgs s_place_of) (defBody s_place_of) (defScope s_place_of) .none kV14 dc14 pm14 an14 cd14 ct14), sl14⟩) (c14 : PySem.W.codeIn K cd14 "_place_of" = true) (k14 : PySem.W.keepIn K (.ref f14) = true)
    (a15 : PySem.W.nsIn K mainGlobals "rooms_run" = some (some (.ref f15))) (l15 : K.lookup f15 = some ⟨oc15, od15, .func (PySem.W.fnOf "rooms_run" "rooms_run" (defArgs s_rooms_run) (defBody s_rooms_run) (defScope s_rooms_run) .none kV15 dc15 pm15 an15 cd15 ct15), sl15⟩) (c15 : PySem.W.codeIn K cd15 "rooms_run" = true) (k15 : PySem.W.keepIn K (.ref f15) = true)
    (a16 : PySem.W.nsIn K mainGlobals "_law_both" = some (some (.ref f16))) (l16 : K.lookup f16 = some ⟨oc16, od16, .func (PySem.W.fnOf "_law_both" "_law_both" (defArgs s_law_both) (defBody s_law_both) (defScope s_law_both) .none kV16 dc16 pm16 an16 cd16 ct16), sl16⟩) (c16 : PySem.W.codeIn K cd16 "_law_both" = true) (k16 : PySem.W.keepIn K (.ref f16) = true)
    (a17 : PySem.W.nsIn K mainGlobals "_law_apart" = some (some (.ref f17))) (l17 : K.lookup f17 = some ⟨oc17, od17, .func (PySem.W.fnOf "_law_apart" "_law_apart" (defArgs s_law_apart) (defBody s_law_apart) (defScope s_law_apart) .none kV17 dc17 pm17 an17 cd17 ct17), sl17⟩) (c17 : PySem.W.codeIn K cd17 "_law_apart" = true) (k17 : PySem.W.keepIn K (.ref f17) = true)
    (a18 : PySem.W.nsIn K mainGlobals "linked" = some (some (.ref f18))) (l18 : K.lookup f18 = some ⟨oc18, od18, .func (PySem.W.fnOf "linked" "linked" (defArgs s_linked) (defBody s_linked) (defScope s_linked) .none kV18 dc18 pm18 an18 cd18 ct18), sl18⟩) (c18 : PySem.W.codeIn K cd18 "linked" = true) (k18 : PySem.W.keepIn K (.ref f18) = true)
    (a19 : PySem.W.nsIn K mainGlobals "needed_parts" = some (some (.ref f19))) (l19 : K.lookup f19 = some ⟨oc19, od19, .func (PySem.W.fnOf "needed_parts" "needed_parts" (defArgs s_needed_parts) (defBody s_needed_parts) (defScope s_needed_parts) .none kV19 dc19 pm19 an19 cd19 ct19), sl19⟩) (c19 : PySem.W.codeIn K cd19 "needed_parts" = true) (k19 : PySem.W.keepIn K (.ref f19) = true)
    (a20 : PySem.W.nsIn K mainGlobals "_law_links" = some (some (.ref f20))) (l20 : K.lookup f20 = some ⟨oc20, od20, .func (PySem.W.fnOf "_law_links" "_law_links" (defArgs s_law_links) (defBody s_law_links) (defScope s_law_links) .none kV20 dc20 pm20 an20 cd20 ct20), sl20⟩) (c20 : PySem.W.codeIn K cd20 "_law_links" = true) (k20 : PySem.W.keepIn K (.ref f20) = true)
    (a21 : PySem.W.nsIn K mainGlobals "_law_deeds" = some (some (.ref f21))) (l21 : K.lookup f21 = some ⟨oc21, od21, .func (PySem.W.fnOf "_law_deeds" "_law_deeds" (defArgs s_law_deeds) (defBody s_law_deeds) (defScope s_law_deeds) .none kV21 dc21 pm21 an21 cd21 ct21), sl21⟩) (c21 : PySem.W.codeIn K cd21 "_law_deeds" = true) (k21 : PySem.W.keepIn K (.ref f21) = true)
    (a22 : PySem.W.nsIn K mainGlobals "law" = some (some (.ref f22))) (l22 : K.lookup f22 = some ⟨oc22, od22, .func (PySem.W.fnOf "law" "law" (defArgs s_law) (defBody s_law) (defScope s_law) .none kV22 dc22 pm22 an22 cd22 ct22), sl22⟩) (c22 : PySem.W.codeIn K cd22 "law" = true) (k22 : PySem.W.keepIn K (.ref f22) = true)
    (z_all : PySem.W.nsIn K mainGlobals "all" = some none)
    (z_any : PySem.W.nsIn K mainGlobals "any" = some none)
    (z_bool : PySem.W.nsIn K mainGlobals "bool" = some none)
    (z_enumerate : PySem.W.nsIn K mainGlobals "enumerate" = some none)
    (z_int : PySem.W.nsIn K mainGlobals "int" = some none)
    (z_isinstance : PySem.W.nsIn K mainGlobals "isinstance" = some none)
    (z_len : PySem.W.nsIn K mainGlobals "len" = some none)
    (z_list : PySem.W.nsIn K mainGlobals "list" = some none)
    (z_max : PySem.W.nsIn K mainGlobals "max" = some none)
    (z_min : PySem.W.nsIn K mainGlobals "min" = some none)
    (z_range : PySem.W.nsIn K mainGlobals "range" = some none)
    (z_set : PySem.W.nsIn K mainGlobals "set" = some none)
    (z_sorted : PySem.W.nsIn K mainGlobals "sorted" = some none)
    (z_str : PySem.W.nsIn K mainGlobals "str" = some none)
    (z_sum : PySem.W.nsIn K mainGlobals "sum" = some none)
    (z_tuple : PySem.W.nsIn K mainGlobals "tuple" = some none)
    : ∃ fd : FuncData, (∀ (s : Shared) (v : Value), BindsTo s fd ⟨[v], []⟩ [("script", v)]) ∧ ∀ base : Heap, K.In base → base.Ns mainGlobals mg → FnOk l.prog w K mg base CX0 10 fa fd ["script"] (spD K m_law) := by
  have e := hfa.symm.trans (PySem.W.mg_of X G a22)
  cases e
  have F0 := fun_mk (st := s_law_mixed) l0 c0 k0
  have b0 := F0.binds (ps := ["script", "k"]) fun _ _ _ _ _ _ us hl => match us, hl with | [_, _], _ => rfl
  have F1 := fun_mk (st := s_law_row) l1 c1 k1
  have b1 := F1.binds (ps := ["script", "many"]) fun _ _ _ _ _ _ us hl => match us, hl with | [_, _], _ => rfl
  have F2 := fun_mk (st := s_law_fit) l2 c2 k2
  have b2 := F2.binds (ps := ["way", "rooms", "size"]) fun _ _ _ _ _ _ us hl => match us, hl with | [_, _, _], _ => rfl
  have F3 := fun_mk (st := s_law_is_int) l3 c3 k3
  have b3 := F3.binds (ps := ["value"]) fun _ _ _ _ _ _ us hl => match us, hl with | [_], _ => rfl
  have F4 := fun_mk (st := s_law_like) l4 c4 k4
  have b4 := F4.binds (ps := ["value", "due"]) fun _ _ _ _ _ _ us hl => match us, hl with | [_, _], _ => rfl
  have F5 := fun_mk (st := s_law_place) l5 c5 k5
  have b5 := F5.binds (ps := ["rooms", "begin"]) fun _ _ _ _ _ _ us hl => match us, hl with | [_, _], _ => rfl
  have F6 := fun_mk (st := s_law_given) l6 c6 k6
  have b6 := F6.binds (ps := ["rooms", "place"]) fun _ _ _ _ _ _ us hl => match us, hl with | [_, _], _ => rfl
  have F7 := fun_mk (st := s_lost_room) l7 c7 k7
  have b7 := F7.binds (ps := ["rooms"]) fun _ _ _ _ _ _ us hl => match us, hl with | [_], _ => rfl
  have F8 := fun_mk (st := s_first_room) l8 c8 k8
  have b8 := F8.binds (ps := ["rooms", "size"]) fun _ _ _ _ _ _ us hl => match us, hl with | [_, _], _ => rfl
  have F9 := fun_mk (st := s_best_room) l9 c9 k9
  have b9 := F9.binds (ps := ["rooms", "size"]) fun _ _ _ _ _ _ us hl => match us, hl with | [_, _], _ => rfl
  have F10 := fun_mk (st := s_room_taken) l10 c10 k10
  have b10 := F10.binds (ps := ["rooms", "place", "size"]) fun _ _ _ _ _ _ us hl => match us, hl with | [_, _, _], _ => rfl
  have F11 := fun_mk (st := s_room_given) l11 c11 k11
  have b11 := F11.binds (ps := ["rooms", "place"]) fun _ _ _ _ _ _ us hl => match us, hl with | [_, _], _ => rfl
  have F12 := fun_mk (st := s_law_run) l12 c12 k12
  have b12 := F12.binds (ps := ["way", "whole", "deeds"]) fun _ _ _ _ _ _ us hl => match us, hl with | [_, _, _], _ => rfl
  have F13 := fun_mk (st := s_begin_of) l13 c13 k13
  have b13 := F13.binds (ps := ["rooms", "place"]) fun _ _ _ _ _ _ us hl => match us, hl with | [_, _], _ => rfl
  have F14 := fun_mk (st := s_place_of) l14 c14 k14
  have b14 := F14.binds (ps := ["rooms", "begin", "size"]) fun _ _ _ _ _ _ us hl => match us, hl with | [_, _, _], _ => rfl
  have F15 := fun_mk (st := s_rooms_run) l15 c15 k15
  have b15 := F15.binds (ps := ["way", "whole", "deeds"]) fun _ _ _ _ _ _ us hl => match us, hl with | [_, _, _], _ => rfl
  have F16 := fun_mk (st := s_law_both) l16 c16 k16
  have b16 := F16.binds (ps := ["whole", "deeds"]) fun _ _ _ _ _ _ us hl => match us, hl with | [_, _], _ => rfl
  have F17 := fun_mk (st := s_law_apart) l17 c17 k17
  have b17 := F17.binds (ps := ["row"]) fun _ _ _ _ _ _ us hl => match us, hl with | [_], _ => rfl
  have F18 := fun_mk (st := s_linked) l18 c18 k18
  have b18 := F18.binds (ps := ["parts", "order"]) fun _ _ _ _ _ _ us hl => match us, hl with | [_, _], _ => rfl
  have F19 := fun_mk (st := s_needed_parts) l19 c19 k19
  have b19 := F19.binds (ps := ["parts", "first"]) fun _ _ _ _ _ _ us hl => match us, hl with | [_, _], _ => rfl
  have F20 := fun_mk (st := s_law_links) l20 c20 k20
  have b20 := F20.binds (ps := ["row"]) fun _ _ _ _ _ _ us hl => match us, hl with | [_], _ => rfl
  have F21 := fun_mk (st := s_law_deeds) l21 c21 k21
  have b21 := F21.binds (ps := ["row"]) fun _ _ _ _ _ _ us hl => match us, hl with | [_], _ => rfl
  have F22 := fun_mk (st := s_law) l22 c22 k22
  have b22 := F22.binds (ps := ["script"]) fun _ _ _ _ _ _ us hl => match us, hl with | [_], _ => rfl
  have B : MG mg := ⟨PySem.W.mg_none_of X G z_all, PySem.W.mg_none_of X G z_any, PySem.W.mg_none_of X G z_bool, PySem.W.mg_none_of X G z_enumerate, PySem.W.mg_none_of X G z_int, PySem.W.mg_none_of X G z_isinstance, PySem.W.mg_none_of X G z_len, PySem.W.mg_none_of X G z_list, PySem.W.mg_none_of X G z_max, PySem.W.mg_none_of X G z_min, PySem.W.mg_none_of X G z_range, PySem.W.mg_none_of X G z_set, PySem.W.mg_none_of X G z_sorted, PySem.W.mg_none_of X G z_str, PySem.W.mg_none_of X G z_sum, PySem.W.mg_none_of X G z_tuple⟩
  refine ⟨PySem.W.fnOf "law" "law" (defArgs s_law) (defBody s_law) (defScope s_law) .none kV22 dc22 pm22 an22 cd22 ct22, fun s v => .of_eq rfl, fun base _ _ => ?_⟩
  have G_law_mixed : FnG l.prog w K mg base 1 "_law_mixed" m_law_mixed [] := FnG.mk' (n := 6) (j := 2) (ok_law_mixed F0 B ) (PySem.W.mg_of X G a0) k0 b0
  have G_law_row : FnG l.prog w K mg base 2 "_law_row" m_law_row [] := FnG.mk' (n := 5) (j := 2) (ok_law_row F1 B G_law_mixed) (PySem.W.mg_of X G a1) k1 b1
  have G_law_fit : FnG l.prog w K mg base 1 "_law_fit" m_law_fit [] := FnG.mk' (n := 6) (j := 3) (ok_law_fit F2 B ) (PySem.W.mg_of X G a2) k2 b2
  have G_law_is_int : FnG l.prog w K mg base 1 "_law_is_int" m_law_is_int [] := FnG.mk' (n := 1) (j := 1) (ok_law_is_int F3 B ) (PySem.W.mg_of X G a3) k3 b3
  have G_law_like : FnG l.prog w K mg base 7 "_law_like" m_law_like [] := FnG.mk' (n := 3) (j := 2) (okr_law_like F4 B G_law_is_int (PySem.W.mg_of X G a4) b4 6) (PySem.W.mg_of X G a4) k4 b4
  have G_law_place : FnG l.prog w K mg base 1 "_law_place" m_law_place [] := FnG.mk' (n := 6) (j := 2) (ok_law_place F5 B ) (PySem.W.mg_of X G a5) k5 b5
  have G_law_given : FnG l.prog w K mg base 1 "_law_given" m_law_given [] := FnG.mk' (n := 6) (j := 2) (ok_law_given F6 B ) (PySem.W.mg_of X G a6) k6 b6
  have G_lost_room : FnG l.prog w K mg base 1 "lost_room" m_lost_room [] := FnG.mk' (n := 4) (j := 1) (ok_lost_room F7 B ) (PySem.W.mg_of X G a7) k7 b7
  have G_first_room : FnG l.prog w K mg base 1 "first_room" m_first_room [] := FnG.mk' (n := 5) (j := 2) (ok_first_room F8 B ) (PySem.W.mg_of X G a8) k8 b8
  have G_best_room : FnG l.prog w K mg base 1 "best_room" m_best_room [] := FnG.mk' (n := 6) (j := 2) (ok_best_room F9 B ) (PySem.W.mg_of X G a9) k9 b9
  have G_room_taken : FnG l.prog w K mg base 1 "room_taken" m_room_taken [] := FnG.mk' (n := 5) (j := 3) (ok_room_taken F10 B ) (PySem.W.mg_of X G a10) k10 b10
  have G_room_given : FnG l.prog w K mg base 1 "room_given" m_room_given [] := FnG.mk' (n := 6) (j := 2) (ok_room_given F11 B ) (PySem.W.mg_of X G a11) k11 b11
  have G_law_run : FnG l.prog w K mg base 8 "_law_run" m_law_run [] := FnG.mk' (n := 14) (j := 3) (ok_law_run F12 B G_law_fit G_law_like G_law_place G_law_given G_lost_room G_first_room G_best_room G_room_taken G_room_given) (PySem.W.mg_of X G a12) k12 b12
  have G_begin_of : FnG l.prog w K mg base 1 "_begin_of" m_begin_of [] := FnG.mk' (n := 3) (j := 2) (ok_begin_of F13 B ) (PySem.W.mg_of X G a13) k13 b13
  have G_place_of : FnG l.prog w K mg base 1 "_place_of" m_place_of [] := FnG.mk' (n := 7) (j := 3) (ok_place_of F14 B ) (PySem.W.mg_of X G a14) k14 b14
  have G_rooms_run : FnG l.prog w K mg base 2 "rooms_run" m_rooms_run [] := FnG.mk' (n := 9) (j := 3) (ok_rooms_run F15 B G_first_room G_best_room G_room_taken G_room_given G_begin_of G_place_of) (PySem.W.mg_of X G a15) k15 b15
  have G_law_both : FnG l.prog w K mg base 9 "_law_both" m_law_both [] := FnG.mk' (n := 9) (j := 2) (ok_law_both F16 B G_law_run G_law_like G_rooms_run) (PySem.W.mg_of X G a16) k16 b16
  have G_law_apart : FnG l.prog w K mg base 8 "_law_apart" m_law_apart [] := FnG.mk' (n := 10) (j := 1) (ok_law_apart F17 B G_law_like G_rooms_run) (PySem.W.mg_of X G a17) k17 b17
  have G_linked : FnG l.prog w K mg base 1 "linked" m_linked [] := FnG.mk' (n := 12) (j := 2) (ok_linked F18 B ) (PySem.W.mg_of X G a18) k18 b18
  have G_needed_parts : FnG l.prog w K mg base 1 "needed_parts" m_needed_parts [] := FnG.mk' (n := 8) (j := 2) (ok_needed_parts F19 B ) (PySem.W.mg_of X G a19) k19 b19
  have G_law_links : FnG l.prog w K mg base 8 "_law_links" m_law_links [] := FnG.mk' (n := 27) (j := 1) (ok_law_links F20 B G_linked G_law_like G_needed_parts G_rooms_run) (PySem.W.mg_of X G a20) k20 b20
  have G_law_deeds : FnG l.prog w K mg base 1 "_law_deeds" m_law_deeds [] := FnG.mk' (n := 5) (j := 1) (ok_law_deeds F21 B ) (PySem.W.mg_of X G a21) k21 b21
  exact (ok_law F22 B G_law_row G_law_both G_law_apart G_law_links G_law_deeds)
end K38
open PySem PySem.W PyProof.Rows
set_option maxHeartbeats 0 in
theorem PySem.Challenge.cw_tonguesalike_k38_whole_rooms_and_links_holds : PySem.Challenge.rw_tonguesalike_k38_whole_rooms_and_links.Holds := by
  w_on; o_law; k_head; (case hw => w_witness2)
  k_fill
  refine L2.walk_of (l := PySem.Challenge.rw_tonguesalike_k38_whole_rooms_and_links) (n := 63) (k := 10) (x := "script") (CX := fun _ => L2.CX0) (sp := fun w => Pv.spD _ K38.m_law) rfl (by decide) rfl ⟨rfl, by decide, by decide⟩ (fun w h Y => PySem.W.kIn_of Y) ?F (fun _ _ a ns hl _ hS => ⟨[.scr ns], _, ⟨_, _, rfl, ⟨a, rfl, hS⟩, rfl⟩, HP.law_true ns, fun v H' h => K38.ret_bl h⟩) (fun _ _ _ _ _ h => h)
  case F =>
    intro w mg fa h KX G hmg
    refine' K38.all_mk KX G hmg ?a0 ?l0 ?c0 ?k0 ?a1 ?l1 ?c1 ?k1 ?a2 ?l2 ?c2 ?k2 ?a3 ?l3 ?c3 ?k3 ?a4 ?l4 ?c4 ?k4 ?a5 ?l5 ?c5 ?k5 ?a6 ?l6 ?c6 ?k6 ?a7 ?l7 ?c7 ?k7 ?a8 ?l8 ?c8 ?k8 ?a9 ?l9 ?c9 ?k9 ?a10 ?l10 ?c10 ?k10 ?a11 ?l11 ?c11 ?k11 ?a12 ?l12 ?c12 ?k12 ?a13 ?l13 ?c13 ?k13 ?a14 ?l14 ?c14 ?k14 ?a15 ?l15 ?c15 ?k15 ?a16 ?l16 ?c16 ?k16 ?a17 ?l17 ?c17 ?k17 ?a18 ?l18 ?c18 ?k18 ?a19 ?l19 ?c19 ?k19 ?a20 ?l20 ?c20 ?k20 ?a21 ?l21 ?c21 ?k21 ?a22 ?l22 ?c22 ?k22 ?z_all ?z_any ?z_bool ?z_enumerate ?z_int ?z_isinstance ?z_len ?z_list ?z_max ?z_min ?z_range ?z_set ?z_sorted ?z_str ?z_sum ?z_tuple
    (case a0 => k_is); (case l0 => k_is); (case c0 => k_is); (case k0 => k_is); (case a1 => k_is); (case l1 => k_is); (case c1 => k_is); (case k1 => k_is); (case a2 => k_is); (case l2 => k_is); (case c2 => k_is); (case k2 => k_is); (case a3 => k_is); (case l3 => k_is); (case c3 => k_is); (case k3 => k_is); (case a4 => k_is); (case l4 => k_is); (case c4 => k_is); (case k4 => k_is); (case a5 => k_is); (case l5 => k_is); (case c5 => k_is); (case k5 => k_is); (case a6 => k_is); (case l6 => k_is); (case c6 => k_is); (case k6 => k_is); (case a7 => k_is); (case l7 => k_is); (case c7 => k_is); (case k7 => k_is); (case a8 => k_is); (case l8 => k_is); (case c8 => k_is); (case k8 => k_is); (case a9 => k_is); (case l9 => k_is); (case c9 => k_is); (case k9 => k_is); (case a10 => k_is); (case l10 => k_is); (case c10 => k_is); (case k10 => k_is); (case a11 => k_is); (case l11 => k_is); (case c11 => k_is); (case k11 => k_is); (case a12 => k_is); (case l12 => k_is); (case c12 => k_is); (case k12 => k_is); (case a13 => k_is); (case l13 => k_is); (case c13 => k_is); (case k13 => k_is); (case a14 => k_is); (case l14 => k_is); (case c14 => k_is); (case k14 => k_is); (case a15 => k_is); (case l15 => k_is); (case c15 => k_is); (case k15 => k_is); (case a16 => k_is); (case l16 => k_is); (case c16 => k_is); (case k16 => k_is); (case a17 => k_is); (case l17 => k_is); (case c17 => k_is); (case k17 => k_is); (case a18 => k_is); (case l18 => k_is); (case c18 => k_is); (case k18 => k_is); (case a19 => k_is); (case l19 => k_is); (case c19 => k_is); (case k19 => k_is); (case a20 => k_is); (case l20 => k_is); (case c20 => k_is); (case k20 => k_is); (case a21 => k_is); (case l21 => k_is); (case c21 => k_is); (case k21 => k_is); (case a22 => k_is); (case l22 => k_is); (case c22 => k_is); (case k22 => k_is); (case z_all => k_is); (case z_any => k_is); (case z_bool => k_is); (case z_enumerate => k_is); (case z_int => k_is); (case z_isinstance => k_is); (case z_len => k_is); (case z_list => k_is); (case z_max => k_is); (case z_min => k_is); (case z_range => k_is); (case z_set => k_is); (case z_sorted => k_is); (case z_str => k_is); (case z_sum => k_is); (case z_tuple => k_is)
    all_goals first | rfl | decide
