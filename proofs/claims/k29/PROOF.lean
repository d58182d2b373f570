import PyProof.Rows.All
import Wide.All
import OpenK.AllK
import Wide.FinOn
import HandS.ForMost
import HandS.ForExc
import HandS.Wide
import HandS.IsInst
import HandS.TupAny
import HandS.TupMul
import HandS.More
import HandS.Conv
import HandS.StrMore
import HandS.Codes
import KE.SortData
import KE.DataCmp
import HandS.Zip
import HandS.Rev
import HandS.Small
import KE.GoesEnumKw
import HandS.HeadHook2
import HandS.HeadEnd
import HandS.Head2
import HandS.Defaults
import HandS.RaiseMore
import HandS.TryElse
import HandS.ListItems
import PySem.Challenge.RW_blotsure_k29_depths_and_tails
set_option Elab.async false
set_option linter.all false
set_option maxRecDepth 100000
set_option maxHeartbeats 0
/-! PuA: plain data, how it lies in the heap, who owns it. -/
namespace Pu
open PySem PySem.Spec PyProof.Rows L2

/-- plain data -/
inductive D where
  | non
  | bl (b : Bool)
  | int (i : Int)
  | str (s : List Nat)
  | tup (ds : List D)
  | lst (ds : List D)
  | dic (r : Nat) (ks vs : List D)
  | exc (c : Nat)
  | scr (ns : List Int)

abbrev Txt := List Nat
def ofT (s : Txt) : Str := ⟨s.toArray⟩
theorem ofT_inj {a b : Txt} (h : ofT a = ofT b) : a = b := by
  have := congrArg (fun z : Str => z.cps.toList) h
  simpa [ofT] using this
theorem ofT_cps (x : Str) : ofT x.cps.toList = x := by
  cases x; simp [ofT]
theorem ofT_len (s : Txt) : (ofT s).length = s.length := by
  unfold ofT Str.length; simp

/-- a text's codes are codes -/
def txOk (s : Txt) : Prop := ∀ c ∈ s, c < 1114112
theorem txOk.app {a b : Txt} (h : txOk a) (h2 : txOk b) : txOk (a ++ b) := fun c m => (List.mem_append.mp m).elim (h c) (h2 c)
theorem txOk.sub {a b : Txt} (h : txOk b) (s : ∀ c ∈ a, c ∈ b) : txOk a := fun c m => h c (s c m)
def keyOk : Key → Prop
  | .inl _ => True
  | .inr x => txOk x.cps.toList

def kD : Key → D
  | .inl i => .int i
  | .inr x => .str x.cps.toList

abbrev Zs := Addr → Prop

/-- a list that may be read, its address among Z -/
def LsZ (H : Hp) (Z : Zs) (a : Addr) (xs : List V) : Prop := Z a ∧ H a = some (.lst xs)

/-- an exception's class by its number -/
abbrev Cs := Nat → Value

/-- what stands at a dict's place -/
def DicHO (r : Nat) (ks : List D) (xs : List V) (u : HO) : Prop :=
  match r with
  | 0 => ∃ kvs : List (Key × V), u = .dK kvs ∧ ks = kvs.map (fun p => kD p.1) ∧ xs = kvs.map (fun p => p.2) ∧ (∀ p ∈ kvs, keyOk p.1) ∧ (kvs.map (·.1)).Nodup
  | 1 => ∃ kvs : List (List Key × V), u = .dT kvs ∧ ks = kvs.map (fun p => .tup (p.1.map kD)) ∧ xs = kvs.map (fun p => p.2) ∧ (∀ p ∈ kvs, ∀ k ∈ p.1, keyOk k) ∧ (kvs.map (·.1)).Nodup
  | _ => False

/-- the script's list -/
def Scr (K : PySem.W.Frag) (H : Hp) (a : Addr) (xs : List V) : Prop := (∃ o, H a = some (.frz o (.lst xs))) ∨
  ∃ (o : Obj) (its : Array Value) (n : Nat), K.lookup a = some o ∧ o.cls = .type "list" ∧ o.dict = none ∧ o.data = .seq its n ∧ its.size ≤ sizeLine ∧ Vals xs its.toList
theorem Scr.sq {K : PySem.W.Frag} {H : Hp} {a : Addr} {xs : List V} (h : Scr K H a xs) : SqL K H a xs := by
  rcases h with ⟨o, h⟩ | h
  · exact .inl (.inr ⟨o, h⟩)
  · exact .inr h
section
variable (K : PySem.W.Frag) (H : Hp) (Z : Zs)
mutual
/-- v is the plain datum d: its lists and dicts stand among Z -/
def Is : D → V → Prop
  | .non, v => v = .non
  | .bl b, v => v = .bl b
  | .int i, v => v = .int i
  | .str s, v => v = .str (ofT s) ∧ txOk s
  | .tup ds, v => ∃ a xs, v = .ref a ∧ H a = some (.tup xs) ∧ IsL ds xs
  | .lst ds, v => ∃ a xs, v = .ref a ∧ LsZ H Z a xs ∧ IsL ds xs
  | .dic r ks vs, v => ∃ a xs u, v = .ref a ∧ Z a ∧ L2.Rd H a u ∧ DicHO r ks xs u ∧ IsL vs xs
  | .exc _, _ => False
  | .scr ns, v => ∃ a, v = .ref a ∧ Scr K H a (ns.map V.int)
def IsL : List D → List V → Prop
  | [], xs => xs = []
  | d :: ds, xs => ∃ x r, xs = x :: r ∧ Is d x ∧ IsL ds r
end
mutual
/-- v is the plain datum d; its lists and dicts are at F, each once -/
def Ow : D → V → List Addr → Prop
  | .non, v, F => v = .non ∧ F = []
  | .bl b, v, F => v = .bl b ∧ F = []
  | .int i, v, F => v = .int i ∧ F = []
  | .str s, v, F => (v = .str (ofT s) ∧ F = []) ∧ txOk s
  | .tup ds, v, F => ∃ a xs, v = .ref a ∧ H a = some (.tup xs) ∧ OwL ds xs F
  | .lst ds, v, F => ∃ a xs F', v = .ref a ∧ F = a :: F' ∧ H a = some (.lst xs) ∧ OwL ds xs F'
  | .dic r ks vs, v, F => ∃ a xs u F', v = .ref a ∧ F = a :: F' ∧ H a = some u ∧ DicHO r ks xs u ∧ OwL vs xs F'
  | .exc _, _, _ => False
  | .scr ns, v, F => ∃ a, v = .ref a ∧ F = [] ∧ Scr K H a (ns.map V.int)
def OwL : List D → List V → List Addr → Prop
  | [], xs, F => xs = [] ∧ F = []
  | d :: ds, xs, F => ∃ x r F1 F2, xs = x :: r ∧ F = F1 ++ F2 ∧ Ow d x F1 ∧ OwL ds r F2
end
end

/-- a tuple, or the script -/
def Firm (u : HO) : Prop := (∃ xs, u = .tup xs) ∨ ∃ o xs, u = .frz o (.lst xs)
/-- what is read stays -/
structure Kp (Z : Zs) (H H' : Hp) : Prop where
  rd : ∀ a u, L2.Rd H a u → Z a → L2.Rd H' a u
  ls : ∀ a xs, H a = some (.lst xs) → Z a → H' a = some (.lst xs)
  tp : ∀ a xs, H a = some (.tup xs) → H' a = some (.tup xs)
  sc : ∀ a o xs, H a = some (.frz o (.lst xs)) → H' a = some (.frz o (.lst xs))
theorem Kp.refl {Z : Zs} {H : Hp} : Kp Z H H := ⟨fun _ _ h _ => h, fun _ _ h _ => h, fun _ _ h => h, fun _ _ _ h => h⟩
theorem Kp.of_same {Z : Zs} {H H' : Hp} (h : Same H H') : Kp Z H H' := ⟨fun a u r _ => by
  rcases r with r | ⟨o, r⟩
  · exact .inl (h _ _ r)
  · exact .inr ⟨o, h _ _ r⟩, fun a xs r _ => h _ _ r, fun a xs r => h _ _ r, fun a o xs r => h _ _ r⟩
theorem Kp.mono {Z Z' : Zs} {H H' : Hp} (k : Kp Z' H H') (h : ∀ a, Z a → Z' a) : Kp Z H H' := ⟨fun a u r q => k.rd a u r (h a q), fun a xs r q => k.ls a xs r (h a q), k.tp, k.sc⟩
theorem Kp.scr {Z : Zs} {H H' : Hp} {K : PySem.W.Frag} (k : Kp Z H H') {a : Addr} {xs : List V} (h : Scr K H a xs) : Scr K H' a xs := by
  rcases h with ⟨o, h⟩ | h
  · exact .inl ⟨o, k.sc _ _ _ h⟩
  · exact .inr h

section
variable {K : PySem.W.Frag} {H H' : Hp} {Z Z' : Zs}
mutual
theorem Is.keep (k : Kp Z H H') (m : ∀ a, Z a → Z' a) : ∀ {d : D} {v : V}, Is K H Z d v → Is K H' Z' d v
  | .non, _, h => h
  | .bl _, _, h => h
  | .int _, _, h => h
  | .str _, _, h => h
  | .tup ds, _, ⟨a, xs, e, s, r⟩ => ⟨a, xs, e, k.tp _ _ s, IsL.keep k m r⟩
  | .lst ds, _, ⟨a, xs, e, s, r⟩ => ⟨a, xs, e, ⟨m _ s.1, k.ls _ _ s.2 s.1⟩, IsL.keep k m r⟩
  | .dic _ ks vs, _, ⟨a, xs, u, e, z, s, dh, r⟩ => ⟨a, xs, u, e, m _ z, k.rd _ _ s z, dh, IsL.keep k m r⟩
  | .exc _, _, h => h
  | .scr ns, _, ⟨a, e, s⟩ => ⟨a, e, k.scr s⟩
theorem IsL.keep (k : Kp Z H H') (m : ∀ a, Z a → Z' a) : ∀ {ds : List D} {xs : List V}, IsL K H Z ds xs → IsL K H' Z' ds xs
  | [], _, h => h
  | d :: ds, _, ⟨x, r, e, h, t⟩ => ⟨x, r, e, Is.keep k m h, IsL.keep k m t⟩
end
theorem Is.mono (h : Is K H Z d v) (m : ∀ a, Z a → Z' a) : Is K H Z' d v := h.keep Kp.refl m
theorem IsL.mono (h : IsL K H Z ds xs) (m : ∀ a, Z a → Z' a) : IsL K H Z' ds xs := h.keep Kp.refl m
theorem IsL.len : ∀ {ds : List D} {xs : List V}, IsL K H Z ds xs → xs.length = ds.length
  | [], _, h => by subst h; rfl
  | d :: ds, _, ⟨x, r, e, _, t⟩ => by subst e; simp [IsL.len t]
theorem IsL.get : ∀ {ds : List D} {xs : List V} {i : Nat} {d : D}, IsL K H Z ds xs → ds[i]? = some d → ∃ x, xs[i]? = some x ∧ Is K H Z d x
  | [], _, _, _, _, q => by simp at q
  | d :: ds, _, 0, _, ⟨x, r, e, h, t⟩, q => by
    subst e; simp at q; subst q; exact ⟨x, rfl, h⟩
  | d :: ds, _, i + 1, _, ⟨x, r, e, h, t⟩, q => by
    subst e; simpa using IsL.get (i := i) t (by simpa using q)
theorem IsL.getV : ∀ {ds : List D} {xs : List V} {i : Nat} {x : V}, IsL K H Z ds xs → xs[i]? = some x → ∃ d, ds[i]? = some d ∧ Is K H Z d x
  | [], _, _, _, h, q => by subst h; simp at q
  | d :: ds, _, 0, _, ⟨x, r, e, h, t⟩, q => by
    subst e; simp at q; subst q; exact ⟨d, rfl, h⟩
  | d :: ds, _, i + 1, _, ⟨x, r, e, h, t⟩, q => by
    subst e; simpa using IsL.getV (i := i) t (by simpa using q)
theorem IsL.app : ∀ {ds es : List D} {xs ys : List V}, IsL K H Z ds xs → IsL K H Z es ys → IsL K H Z (ds ++ es) (xs ++ ys)
  | [], _, _, _, h, q => by subst h; exact q
  | d :: ds, _, _, _, ⟨x, r, e, h, t⟩, q => by subst e; exact ⟨x, r ++ _, rfl, h, IsL.app t q⟩
theorem IsL.set : ∀ {ds : List D} {xs : List V} {i : Nat} {d : D} {x : V}, IsL K H Z ds xs → Is K H Z d x → IsL K H Z (ds.set i d) (xs.set i x)
  | [], _, _, _, _, h, _ => by subst h; rfl
  | d :: ds, _, 0, _, _, ⟨x, r, e, h, t⟩, q => by subst e; exact ⟨_, r, rfl, q, t⟩
  | d :: ds, _, i + 1, _, _, ⟨x, r, e, h, t⟩, q => by subst e; exact ⟨x, _, rfl, h, IsL.set (i := i) t q⟩
theorem IsL.take : ∀ {ds : List D} {xs : List V} (n : Nat), IsL K H Z ds xs → IsL K H Z (ds.take n) (xs.take n)
  | _, _, 0, _ => by simp [IsL]
  | [], _, n + 1, h => by subst h; rfl
  | d :: ds, _, n + 1, ⟨x, r, e, h, t⟩ => by subst e; exact ⟨x, _, rfl, h, IsL.take n t⟩
theorem IsL.drop : ∀ {ds : List D} {xs : List V} (n : Nat), IsL K H Z ds xs → IsL K H Z (ds.drop n) (xs.drop n)
  | _, _, 0, h => h
  | [], _, n + 1, h => by subst h; rfl
  | d :: ds, _, n + 1, ⟨x, r, e, h, t⟩ => by subst e; exact IsL.drop n t
theorem IsL.rev : ∀ {ds : List D} {xs : List V}, IsL K H Z ds xs → IsL K H Z ds.reverse xs.reverse
  | [], _, h => by subst h; rfl
  | d :: ds, _, ⟨x, r, e, h, t⟩ => by
    subst e
    rw [List.reverse_cons, List.reverse_cons]
    exact IsL.app (IsL.rev t) ⟨x, [], rfl, h, rfl⟩
theorem IsL.one {d : D} {x : V} (h : Is K H Z d x) : IsL K H Z [d] [x] := ⟨x, [], rfl, h, rfl⟩

mutual
/-- what is owned is read -/
theorem Ow.is : ∀ {d : D} {v : V} {F : List Addr}, Ow K H d v F → (∀ a ∈ F, Z a) → Is K H Z d v
  | .non, _, _, h, _ => h.1
  | .bl _, _, _, h, _ => h.1
  | .int _, _, _, h, _ => h.1
  | .str _, _, _, h, _ => ⟨h.1.1, h.2⟩
  | .tup ds, _, _, ⟨a, xs, e, s, r⟩, m => ⟨a, xs, e, s, OwL.is r m⟩
  | .lst ds, _, _, ⟨a, xs, F', e, f, s, r⟩, m => by
    subst f
    exact ⟨a, xs, e, ⟨m _ List.mem_cons_self, s⟩, OwL.is r fun b hb => m b (List.mem_cons_of_mem _ hb)⟩
  | .dic _ ks vs, _, _, ⟨a, xs, u, F', e, f, s, dh, r⟩, m => by
    subst f
    exact ⟨a, xs, u, e, m _ List.mem_cons_self, .inl s, dh, OwL.is r fun b hb => m b (List.mem_cons_of_mem _ hb)⟩
  | .exc _, _, _, h, _ => h
  | .scr ns, _, _, ⟨a, e, f, s⟩, _ => ⟨a, e, s⟩
theorem OwL.is : ∀ {ds : List D} {xs : List V} {F : List Addr}, OwL K H ds xs F → (∀ a ∈ F, Z a) → IsL K H Z ds xs
  | [], _, _, h, _ => h.1
  | d :: ds, _, _, ⟨x, r, F1, F2, e, f, h, t⟩, m => by
    subst f
    exact ⟨x, r, e, Ow.is h fun b hb => m b (List.mem_append_left _ hb), OwL.is t fun b hb => m b (List.mem_append_right _ hb)⟩
end
mutual
/-- what is owned stays while its places do -/
theorem Ow.keep (k : Kp Z H H') : ∀ {d : D} {v : V} {F : List Addr}, Ow K H d v F → (∀ a ∈ F, H' a = H a) → Ow K H' d v F
  | .non, _, _, h, _ => h
  | .bl _, _, _, h, _ => h
  | .int _, _, _, h, _ => h
  | .str _, _, _, h, _ => h
  | .tup ds, _, _, ⟨a, xs, e, s, r⟩, m => ⟨a, xs, e, k.tp _ _ s, OwL.keep k r m⟩
  | .lst ds, _, _, ⟨a, xs, F', e, f, s, r⟩, m => by
    subst f
    exact ⟨a, xs, F', e, rfl, (m _ List.mem_cons_self).trans s, OwL.keep k r fun b hb => m b (List.mem_cons_of_mem _ hb)⟩
  | .dic _ ks vs, _, _, ⟨a, xs, u, F', e, f, s, dh, r⟩, m => by
    subst f
    exact ⟨a, xs, u, F', e, rfl, (m _ List.mem_cons_self).trans s, dh, OwL.keep k r fun b hb => m b (List.mem_cons_of_mem _ hb)⟩
  | .exc _, _, _, h, _ => h
  | .scr ns, _, _, ⟨a, e, f, s⟩, _ => ⟨a, e, f, k.scr s⟩
theorem OwL.keep (k : Kp Z H H') : ∀ {ds : List D} {xs : List V} {F : List Addr}, OwL K H ds xs F → (∀ a ∈ F, H' a = H a) → OwL K H' ds xs F
  | [], _, _, h, _ => h
  | d :: ds, _, _, ⟨x, r, F1, F2, e, f, h, t⟩, m => by
    subst f
    exact ⟨x, r, F1, F2, e, rfl, Ow.keep k h fun b hb => m b (List.mem_append_left _ hb), OwL.keep k t fun b hb => m b (List.mem_append_right _ hb)⟩
end
mutual
theorem Ow.dom : ∀ {d : D} {v : V} {F : List Addr}, Ow K H d v F → ∀ a ∈ F, H a ≠ none
  | .non, _, _, h, _, m => by rw [h.2] at m; simp at m
  | .bl _, _, _, h, _, m => by rw [h.2] at m; simp at m
  | .int _, _, _, h, _, m => by rw [h.2] at m; simp at m
  | .str _, _, _, h, _, m => by rw [h.1.2] at m; simp at m
  | .tup ds, _, _, ⟨a, xs, e, s, r⟩, b, m => OwL.dom r b m
  | .lst ds, _, _, ⟨a, xs, F', e, f, s, r⟩, b, m => by
    subst f
    rcases List.mem_cons.mp m with rfl | m
    · rw [s]; simp
    · exact OwL.dom r b m
  | .dic _ ks vs, _, _, ⟨a, xs, u, F', e, f, s, dh, r⟩, b, m => by
    subst f
    rcases List.mem_cons.mp m with rfl | m
    · rw [s]; simp
    · exact OwL.dom r b m
  | .exc _, _, _, h, _, _ => h.elim
  | .scr ns, _, _, ⟨a, e, f, s⟩, b, m => by rw [f] at m; simp at m
theorem OwL.dom : ∀ {ds : List D} {xs : List V} {F : List Addr}, OwL K H ds xs F → ∀ a ∈ F, H a ≠ none
  | [], _, _, h, _, m => by rw [h.2] at m; simp at m
  | d :: ds, _, _, ⟨x, r, F1, F2, e, f, h, t⟩, b, m => by
    subst f
    rcases List.mem_append.mp m with m | m
    · exact Ow.dom h b m
    · exact OwL.dom t b m
end
theorem OwL.app : ∀ {ds es : List D} {xs ys : List V} {F G : List Addr}, OwL K H ds xs F → OwL K H es ys G → OwL K H (ds ++ es) (xs ++ ys) (F ++ G)
  | [], _, _, _, _, _, h, q => by obtain ⟨rfl, rfl⟩ := h; exact q
  | d :: ds, _, _, _, _, _, ⟨x, r, F1, F2, e, f, h, t⟩, q => by
    subst e f; exact ⟨x, r ++ _, F1, F2 ++ _, rfl, by rw [List.append_assoc], h, OwL.app t q⟩
theorem OwL.one {d : D} {x : V} {F : List Addr} (h : Ow K H d x F) : OwL K H [d] [x] F := ⟨x, [], F, [], rfl, by simp, h, rfl, rfl⟩
theorem OwL.len : ∀ {ds : List D} {xs : List V} {F : List Addr}, OwL K H ds xs F → xs.length = ds.length
  | [], _, _, h => by obtain ⟨rfl, rfl⟩ := h; rfl
  | d :: ds, _, _, ⟨x, r, _, _, e, _, _, t⟩ => by subst e; simp [OwL.len t]
end

mutual
/-- without lists and dicts -/
def flat : D → Bool
  | .lst _ => false
  | .dic _ _ _ => false
  | .exc _ => false
  | .scr _ => false
  | .tup ds => flatL ds
  | .non => true
  | .bl _ => true
  | .int _ => true
  | .str _ => true
def flatL : List D → Bool
  | [] => true
  | d :: ds => flat d && flatL ds
end
section
variable {K : PySem.W.Frag} {H : Hp} {Z : Zs}
mutual
theorem Is.flat : ∀ {d : D} {v : V}, Is K H Z d v → Pu.flat d = true → Ow K H d v []
  | .non, _, h, _ => ⟨h, rfl⟩
  | .bl _, _, h, _ => ⟨h, rfl⟩
  | .int _, _, h, _ => ⟨h, rfl⟩
  | .str _, _, h, _ => ⟨⟨h.1, rfl⟩, h.2⟩
  | .tup ds, _, ⟨a, xs, e, s, r⟩, f => ⟨a, xs, e, s, IsL.flat r (by simpa [Pu.flat] using f)⟩
  | .lst _, _, _, f => by simp [Pu.flat] at f
  | .dic _ _ _, _, _, f => by simp [Pu.flat] at f
  | .exc _, _, h, _ => h
  | .scr _, _, _, f => by simp [Pu.flat] at f
theorem IsL.flat : ∀ {ds : List D} {xs : List V}, IsL K H Z ds xs → flatL ds = true → OwL K H ds xs []
  | [], _, h, _ => ⟨h, rfl⟩
  | d :: ds, _, ⟨x, r, e, h, t⟩, f => by
    have f' : Pu.flat d = true ∧ flatL ds = true := by simpa [flatL] using f
    exact ⟨x, r, [], [], e, rfl, Is.flat h f'.1, IsL.flat t f'.2⟩
end
end
theorem flatL_iff : ∀ {ds : List D}, flatL ds = true ↔ ∀ d ∈ ds, flat d = true
  | [] => by simp [flatL]
  | d :: ds => by simp [flatL, flatL_iff]

/-! ### what came of it -/
inductive R (α : Type) where
  | ok (a : α)
  | ex (c : Nat)
  | bad
namespace R
@[reducible] def bind {α β : Type} (x : R α) (f : α → R β) : R β := match x with
  | .ok a => f a
  | .ex c => .ex c
  | .bad => .bad
instance : Monad R where
  pure := .ok
  bind := bind
end R
/-- what is asked, by what came of it -/
def Ro {α : Type} (r : R α) (P : α → Prop) (E : Nat → Prop) : Prop := match r with
  | .ok a => P a
  | .ex c => E c
  | .bad => False

/-! ### how a value is held: 0 it may be read, 1 shared, 2 its root is one's own, 3 all of it -/
section
variable (K : PySem.W.Frag) (H : Hp) (Z : Zs)
def O1 (F : List Addr) : D → V → Prop
  | .lst ds, v => ∃ a xs, v = .ref a ∧ F = [a] ∧ H a = some (.lst xs) ∧ IsL K H Z ds xs
  | .dic r ks vs, v => ∃ a xs u, v = .ref a ∧ F = [a] ∧ H a = some u ∧ DicHO r ks xs u ∧ IsL K H Z vs xs
  | d, v => F = [] ∧ Is K H Z d v
def Vl (k : Nat) (F : List Addr) (d : D) (v : V) : Prop := match k with
  | 0 => F = [] ∧ Is K H (fun a => H a ≠ none) d v
  | 1 => F = [] ∧ Is K H Z d v
  | 2 => O1 K H Z F d v
  | _ => Ow K H d v F
def VlL (k : Nat) (F : List Addr) (ds : List D) (vs : List V) : Prop := match k with
  | 0 => F = [] ∧ IsL K H (fun a => H a ≠ none) ds vs
  | 1 => F = [] ∧ IsL K H Z ds vs
  | 2 => F = [] ∧ IsL K H Z ds vs
  | _ => OwL K H ds vs F
end
end Pu

/-! PuB: states, what a piece of text does to plain data. -/
namespace Pu
open PySem PySem.Spec PyProof.Rows L2
abbrev Env := List (Option D)
abbrev St := L2.St

/-- more is laid, more is shared; nothing that stood is touched -/
structure Ext (Z Z' : Zs) (H H' : Hp) : Prop where
  same : Same H H'
  zm : ∀ a, Z a → Z' a
  zn : ∀ a, Z' a → Z a ∨ H a = none
  zd : ∀ a, Z' a → H' a ≠ none
theorem Ext.refl {Z : Zs} {H : Hp} (h : ∀ a, Z a → H a ≠ none) : Ext Z Z H H := ⟨Same.refl H, fun _ h => h, fun _ h => .inl h, h⟩
theorem Ext.trans {Z Z1 Z2 : Zs} {H H1 H2 : Hp} (a : Ext Z Z1 H H1) (b : Ext Z1 Z2 H1 H2) : Ext Z Z2 H H2 :=
  ⟨a.same.trans b.same, fun c h => b.zm c (a.zm c h), fun c h => (b.zn c h).elim (fun q => a.zn c q) (fun q => .inr (a.same.free q)), b.zd⟩
theorem Ext.keep {Z Z' : Zs} {H H' : Hp} (a : Ext Z Z' H H') : Kp Z H H' := Kp.of_same a.same
/-- places that are new, each once, not shared -/
structure Fr (Z : Zs) (H : Hp) (F : List Addr) : Prop where
  nd : F.Nodup
  nw : ∀ a ∈ F, H a = none ∧ ¬ Z a
theorem Fr.nil {Z : Zs} {H : Hp} : Fr Z H [] := ⟨List.nodup_nil, fun _ h => by simp at h⟩
theorem dom_mono {H H' : Hp} (h : Same H H') : ∀ a, H a ≠ none → H' a ≠ none := fun a q z => by
  cases e : H a with
  | none => exact q e
  | some o => rw [h _ _ e] at z; cases z

section
variable {K : PySem.W.Frag} {H H' : Hp} {Z Z' : Zs} {k : Nat} {F : List Addr} {d : D} {v : V} {ds : List D} {vs : List V}
theorem O1.dom (h : O1 K H Z F d v) : ∀ a ∈ F, H a ≠ none := fun b m => by
  cases d with
  | lst ds => obtain ⟨a, xs, e, f, s, r⟩ := h; subst f; rw [List.mem_singleton.mp m, s]; simp
  | dic r ks vs => obtain ⟨a, xs, u, e, f, s, r⟩ := h; subst f; rw [List.mem_singleton.mp m, s]; simp
  | non => rw [h.1] at m; simp at m
  | bl _ => rw [h.1] at m; simp at m
  | int _ => rw [h.1] at m; simp at m
  | str _ => rw [h.1] at m; simp at m
  | tup _ => rw [h.1] at m; simp at m
  | exc _ => rw [h.1] at m; simp at m
  | scr _ => rw [h.1] at m; simp at m
theorem O1.is (h : O1 K H Z F d v) (m : ∀ a, Z a → Z' a) (n : ∀ a ∈ F, Z' a) : Is K H Z' d v := by
  cases d with
  | lst ds => obtain ⟨a, xs, e, f, s, r⟩ := h; subst f; exact ⟨a, xs, e, ⟨n _ (List.mem_singleton.mpr rfl), s⟩, r.mono m⟩
  | dic r ks vs => obtain ⟨a, xs, u, e, f, s, q, r⟩ := h; subst f; exact ⟨a, xs, u, e, n _ (List.mem_singleton.mpr rfl), .inl s, q, r.mono m⟩
  | non => exact h.2.mono m
  | bl _ => exact h.2.mono m
  | int _ => exact h.2.mono m
  | str _ => exact h.2.mono m
  | tup _ => exact h.2.mono m
  | exc _ => exact h.2.mono m
  | scr _ => exact h.2.mono m
theorem O1.keep (h : O1 K H Z F d v) (kp : Kp Z H H') (m : ∀ a, Z a → Z' a) (n : ∀ a ∈ F, H' a = H a) : O1 K H' Z' F d v := by
  cases d with
  | lst ds => obtain ⟨a, xs, e, f, s, r⟩ := h; subst f; exact ⟨a, xs, e, rfl, (n _ (List.mem_singleton.mpr rfl)).trans s, r.keep kp m⟩
  | dic r ks vs => obtain ⟨a, xs, u, e, f, s, q, r⟩ := h; subst f; exact ⟨a, xs, u, e, rfl, (n _ (List.mem_singleton.mpr rfl)).trans s, q, r.keep kp m⟩
  | non => exact ⟨h.1, h.2.keep kp m⟩
  | bl _ => exact ⟨h.1, h.2.keep kp m⟩
  | int _ => exact ⟨h.1, h.2.keep kp m⟩
  | str _ => exact ⟨h.1, h.2.keep kp m⟩
  | tup _ => exact ⟨h.1, h.2.keep kp m⟩
  | exc _ => exact ⟨h.1, h.2.keep kp m⟩
  | scr _ => exact ⟨h.1, h.2.keep kp m⟩
theorem Vl.dom (h : Vl K H Z k F d v) : ∀ a ∈ F, H a ≠ none := fun b m => by
  match k, h with
  | 0, h => rw [h.1] at m; simp at m
  | 1, h => rw [h.1] at m; simp at m
  | 2, h => exact O1.dom h b m
  | n + 3, h => exact Ow.dom h b m
/-- it may be read -/
theorem Vl.is0 (h : Vl K H Z k F d v) (zd : ∀ a, Z a → H a ≠ none) : Is K H (fun a => H a ≠ none) d v := by
  have q := h.dom
  match k, h with
  | 0, h => exact h.2
  | 1, h => exact h.2.mono zd
  | 2, h => exact O1.is h zd q
  | n + 3, h => exact Ow.is h q
/-- it is shared, its places with it -/
theorem Vl.is1 (hk : 1 ≤ k) (h : Vl K H Z k F d v) : Is K H (fun a => Z a ∨ a ∈ F) d v := by
  match k, h with
  | 1, h => exact h.2.mono fun a h => .inl h
  | 2, h => exact O1.is h (fun a h => .inl h) fun a h => .inr h
  | n + 3, h => exact Ow.is h fun a h => .inr h
theorem Vl.keep (h : Vl K H Z k F d v) (kp : Kp Z H H') (kd : Same H H' ∨ 1 ≤ k) (m : ∀ a, Z a → Z' a) (n : ∀ a ∈ F, H' a = H a) : Vl K H' Z' k F d v := by
  match k, h with
  | 0, h =>
    rcases kd with kd | kd
    · exact ⟨h.1, h.2.keep (Kp.of_same kd) (dom_mono kd)⟩
    · omega
  | 1, h => exact ⟨h.1, h.2.keep kp m⟩
  | 2, h => exact O1.keep h kp m n
  | j + 3, h => exact Ow.keep kp h n
theorem same_at (s : Same H H') {a : Addr} (h : H a ≠ none) : H' a = H a := by
  cases e : H a with
  | none => exact absurd e h
  | some o => exact s _ _ e
theorem Vl.ext (h : Vl K H Z k F d v) (x : Ext Z Z' H H') : Vl K H' Z' k F d v :=
  h.keep x.keep (.inl x.same) x.zm fun a m => same_at x.same (h.dom a m)
theorem Fr.ext {H0 : Hp} (f : Fr Z H0 F) (h : ∀ a ∈ F, H a ≠ none) (x : Ext Z Z' H H') : Fr Z' H0 F :=
  ⟨f.nd, fun a m => ⟨(f.nw a m).1, fun z => (x.zn a z).elim (f.nw a m).2 (h a m)⟩⟩
theorem VlL.dom (h : VlL K H Z k F ds vs) : ∀ a ∈ F, H a ≠ none := fun b m => by
  match k, h with
  | 0, h => rw [h.1] at m; simp at m
  | 1, h => rw [h.1] at m; simp at m
  | 2, h => rw [h.1] at m; simp at m
  | n + 3, h => exact OwL.dom h b m
theorem VlL.is0 (h : VlL K H Z k F ds vs) (zd : ∀ a, Z a → H a ≠ none) : IsL K H (fun a => H a ≠ none) ds vs := by
  have q := h.dom
  match k, h with
  | 0, h => exact h.2
  | 1, h => exact h.2.mono zd
  | 2, h => exact h.2.mono zd
  | n + 3, h => exact OwL.is h q
theorem VlL.is1 (hk : 1 ≤ k) (h : VlL K H Z k F ds vs) : IsL K H (fun a => Z a ∨ a ∈ F) ds vs := by
  match k, h with
  | 1, h => exact h.2.mono fun a h => .inl h
  | 2, h => exact h.2.mono fun a h => .inl h
  | n + 3, h => exact OwL.is h fun a h => .inr h
/-- Z grown by places that are one's own -/
theorem Ext.share (zd : ∀ a, Z a → H' a ≠ none) (x : Ext Z Z' H H') (f : Fr Z' H F) (h : ∀ a ∈ F, H' a ≠ none) : Ext Z (fun a => Z' a ∨ a ∈ F) H H' :=
  ⟨x.same, fun a q => .inl (x.zm a q), fun a q => q.elim (x.zn a) fun m => .inr (f.nw a m).1, fun a q => q.elim (x.zd a) (h a)⟩
end

/-- the state within a def: H0, Zc as it was entered -/
structure SI (K : PySem.W.Frag) (H0 : Hp) (Zc : Zs) (ks : List Nat) (env : Env) (σ : St) (H : Hp) (Z : Zs) (Fs : Nat → List Addr) : Prop where
  len : σ.length = env.length
  slot : ∀ i d, env[i]? = some (some d) → ∃ v, σ[i]? = some (some v) ∧ 1 ≤ ks.getD i 1 ∧ Vl K H Z (ks.getD i 1) (Fs i) d v
  disj : ∀ i j a, a ∈ Fs i → a ∈ Fs j → i = j
  nd : ∀ i, (Fs i).Nodup
  own : ∀ i a, a ∈ Fs i → ¬ Z a ∧ H0 a = none ∧ H a ≠ none
  ext : Ext Zc Z H0 H
theorem SI.go {K : PySem.W.Frag} {H0 : Hp} {Zc : Zs} {ks : List Nat} {env : Env} {σ : St} {H H' : Hp} {Z Z' : Zs} {Fs : Nat → List Addr} (s : SI K H0 Zc ks env σ H Z Fs) (x : Ext Z Z' H H') : SI K H0 Zc ks env σ H' Z' Fs where
  len := s.len
  slot := fun i d e => by
    obtain ⟨v, h1, h2, h3⟩ := s.slot i d e
    exact ⟨v, h1, h2, h3.ext x⟩
  disj := s.disj
  nd := s.nd
  own := fun i a m => ⟨fun z => (x.zn a z).elim (s.own i a m).1 (s.own i a m).2.2, (s.own i a m).2.1, dom_mono x.same a (s.own i a m).2.2⟩
  ext := s.ext.trans x

/-! ### readings that do what a function of plain data tells -/
section
variable (K : PySem.W.Frag) (W : WX) (C : Cs) (ks : List Nat)
/-- an expression's reading -/
def SE (t : TE) (f : Env → R D) (k : Nat) : Prop := ∀ (H0 : Hp) (Zc : Zs) (env : Env) (σ : St) (H : Hp) (Z : Zs) (Fs : Nat → List Addr) (Q : VK), SI K H0 Zc ks env σ H Z Fs →
  Ro (f env) (fun d => ∀ v H' Z' F, Ext Z Z' H H' → Fr Z' H F → Vl K H' Z' k F d v → Q v H') (fun c => ∀ H' Z', Ext Z Z' H H' → W (C c) none σ H') → t σ H Q
/-- a test's -/
def ST (t : TT) (f : Env → R Bool) : Prop := ∀ (H0 : Hp) (Zc : Zs) (env : Env) (σ : St) (H : Hp) (Z : Zs) (Fs : Nat → List Addr) (Q : Bool → Hp → Prop), SI K H0 Zc ks env σ H Z Fs →
  Ro (f env) (fun b => ∀ H' Z', Ext Z Z' H H' → Q b H') (fun c => ∀ H' Z', Ext Z Z' H H' → W (C c) none σ H') → t σ H Q
/-- an argument list's -/
def SA (t : TA) (f : Env → R (List D)) (k : Nat) : Prop := ∀ (H0 : Hp) (Zc : Zs) (env : Env) (σ : St) (H : Hp) (Z : Zs) (Fs : Nat → List Addr) (Q : List V → Hp → Prop), SI K H0 Zc ks env σ H Z Fs →
  Ro (f env) (fun ds => ∀ vs H' Z' F, Ext Z Z' H H' → Fr Z' H F → VlL K H' Z' k F ds vs → Q vs H') (fun c => ∀ H' Z', Ext Z Z' H H' → W (C c) none σ H') → t σ H Q
/-- what is done by values: a built-in, an operator, a def -/
def Prim (r : List V → Hp → VK → Prop) (g : List D → R D) (k : Nat) (E : Nat → Hp → Prop) : Prop := ∀ (H : Hp) (Z : Zs) (ds : List D) (vs : List V) (Q : VK), (∀ a, Z a → H a ≠ none) → IsL K H Z ds vs →
  Ro (g ds) (fun d => ∀ v H' Z' F, Ext Z Z' H H' → Fr Z' H F → Vl K H' Z' k F d v → Q v H') (fun c => ∀ H' Z', Ext Z Z' H H' → E c H') → r vs H Q
end

theorem Ro.mono {α : Type} {r : R α} {P P' : α → Prop} {E E' : Nat → Prop} (h : Ro r P E) (hp : ∀ a, P a → P' a) (he : ∀ c, E c → E' c) : Ro r P' E' := by
  cases r with
  | ok a => exact hp a h
  | ex c => exact he c h
  | bad => exact h
theorem Ro.bind {α β : Type} {r : R α} {g : α → R β} {P : β → Prop} {E : Nat → Prop} (h : Ro (r >>= g) P E) : Ro r (fun a => Ro (g a) P E) E := by
  cases r with
  | ok a => exact h
  | ex c => exact h
  | bad => exact h

section
variable {K : PySem.W.Frag} {W : WX} {C : Cs} {ks : List Nat}
/-- held less closely -/
def lessK (k : Nat) : Nat := if k = 0 then 0 else 1
theorem SE.less {t : TE} {f : Env → R D} {k : Nat} (h : SE K W C ks t f k) : SE K W C ks t f (lessK k) := fun H0 Zc env σ H Z Fs Q s q => by
  refine h H0 Zc env σ H Z Fs Q s (q.mono (fun d q v H' Z' F x fr vl => ?_) fun c q => q)
  unfold lessK at q
  by_cases hk : k = 0
  · subst hk
    exact q v H' Z' F x fr vl
  · rw [if_neg hk] at q
    exact q v H' _ [] (Ext.share (fun a z => x.zd a (x.zm a z)) x fr vl.dom) ⟨List.nodup_nil, fun _ m => by simp at m⟩ ⟨rfl, vl.is1 (by omega)⟩
theorem SE.read {t : TE} {f : Env → R D} {k : Nat} (h : SE K W C ks t f k) : SE K W C ks t f 0 := fun H0 Zc env σ H Z Fs Q s q => by
  refine h H0 Zc env σ H Z Fs Q s (q.mono (fun d q v H' Z' F x fr vl => ?_) fun c q => q)
  exact q v H' Z' [] x ⟨List.nodup_nil, fun _ m => by simp at m⟩ ⟨rfl, vl.is0 x.zd⟩
theorem SA.less {t : TA} {f : Env → R (List D)} {k : Nat} (h : SA K W C ks t f k) : SA K W C ks t f (lessK k) := fun H0 Zc env σ H Z Fs Q s q => by
  refine h H0 Zc env σ H Z Fs Q s (q.mono (fun d q v H' Z' F x fr vl => ?_) fun c q => q)
  unfold lessK at q
  by_cases hk : k = 0
  · subst hk
    exact q v H' Z' F x fr vl
  · rw [if_neg hk] at q
    exact q v H' _ [] (Ext.share (fun a z => x.zd a (x.zm a z)) x fr vl.dom) ⟨List.nodup_nil, fun _ m => by simp at m⟩ ⟨rfl, vl.is1 (by omega)⟩
theorem SA.read {t : TA} {f : Env → R (List D)} {k : Nat} (h : SA K W C ks t f k) : SA K W C ks t f 0 := fun H0 Zc env σ H Z Fs Q s q => by
  refine h H0 Zc env σ H Z Fs Q s (q.mono (fun d q v H' Z' F x fr vl => ?_) fun c q => q)
  exact q v H' Z' [] x ⟨List.nodup_nil, fun _ m => by simp at m⟩ ⟨rfl, vl.is0 x.zd⟩

/-- a value without lists and dicts is all one's own -/
def flatR (d : D) : R D := if flat d = true then .ok d else .bad
theorem SE.flat {t : TE} {f : Env → R D} {k : Nat} (h : SE K W C ks t f k) : SE K W C ks t (fun env => f env >>= flatR) 3 := fun H0 Zc env σ H Z Fs Q s q => by
  refine h.read H0 Zc env σ H Z Fs Q s (q.bind.mono (fun d q v H' Z' F x fr vl => ?_) fun c q => q)
  unfold flatR at q
  by_cases hf : Pu.flat d = true
  · rw [if_pos hf] at q
    obtain ⟨rfl, vl⟩ := vl
    exact q v H' Z' [] x fr (vl.flat hf)
  · rw [if_neg hf] at q
    exact q.elim

/-- the kind of what comes of values that are held so -/
def outK (kr ka : Nat) : Nat := if kr = 3 then 3 else if ka = 0 then 0 else kr
/-- arguments, then what is done by values -/
theorem SA.prim {t : TA} {f : Env → R (List D)} {ka kr : Nat} {r : List V → Hp → VK → Prop} {g : List D → R D} (h : SA K W C ks t f ka) (hp : ∀ σ, Prim K r g kr (fun c H' => W (C c) none σ H')) :
    SE K W C ks (fun σ H Q => t σ H fun vs H1 => r vs H1 Q) (fun env => f env >>= g) (outK kr ka) := fun H0 Zc env σ H Z Fs Q s q => by
  by_cases hk : ka = 0
  · -- read alone
    refine h.read H0 Zc env σ H Z Fs _ s (q.bind.mono (fun ds q vs H1 Z1 F x fr vl => ?_) fun c q => q)
    obtain ⟨rfl, vl⟩ := vl
    refine hp σ H1 (fun a => H1 a ≠ none) ds vs Q (fun _ z => z) vl (q.mono (fun d q3 v H2 Z2 F2 x2 fr2 vl2 => ?_) fun c q H2 Z2 x2 => ?_)
    · -- Z beside what is new there
      have x3 : Ext Z1 (fun a => Z1 a) H1 H2 := ⟨x2.same, fun _ z => z, fun _ z => .inl z, fun a z => dom_mono x2.same a (x.zd a z)⟩
      have fr3 : Fr Z1 H F2 := ⟨fr2.nd, fun a m => ⟨x.same.free (fr2.nw a m).1, fun z => (x.zd a z) (fr2.nw a m).1⟩⟩
      unfold outK at q3
      by_cases h3 : kr = 3
      · rw [if_pos h3] at q3
        subst h3
        exact q3 v H2 Z1 F2 (x.trans x3) fr3 vl2
      · rw [if_neg h3, if_pos hk] at q3
        refine q3 v H2 Z1 [] (x.trans x3) Fr.nil ⟨rfl, vl2.is0 x2.zd⟩
    · have x3 : Ext Z1 (fun a => Z1 a) H1 H2 := ⟨x2.same, fun _ z => z, fun _ z => .inl z, fun a z => dom_mono x2.same a (x.zd a z)⟩
      exact q H2 Z1 (x.trans x3)
  · have h' := h.less
    unfold lessK at h'
    rw [if_neg hk] at h'
    refine h' H0 Zc env σ H Z Fs _ s (q.bind.mono (fun ds q vs H1 Z1 F x fr vl => ?_) fun c q => q)
    obtain ⟨rfl, vl⟩ := vl
    refine hp σ H1 Z1 ds vs Q x.zd vl (q.mono (fun d q v H2 Z2 F2 x2 fr2 vl2 => ?_) fun c q H2 Z2 x2 => q H2 Z2 (x.trans x2))
    have ek : outK kr ka = kr := by
      unfold outK
      by_cases h3 : kr = 3
      · rw [if_pos h3, h3]
      · rw [if_neg h3, if_neg hk]
    rw [ek] at q
    exact q v H2 Z2 F2 (x.trans x2) ⟨fr2.nd, fun a m => ⟨x.same.free (fr2.nw a m).1, (fr2.nw a m).2⟩⟩ vl2

/-! ### argument lists -/
def minK (a b : Nat) : Nat := if a = 0 ∨ b = 0 then 0 else if a = 3 ∧ b = 3 then 3 else 1
theorem SA.nil : SA K W C ks tNil (fun _ => .ok []) 3 := fun H0 Zc env σ H Z Fs Q s q => q [] H Z [] (Ext.refl s.ext.zd) Fr.nil ⟨rfl, rfl⟩
def consR (d : D) (ds : List D) : R (List D) := .ok (d :: ds)
theorem SA.cons {te : TE} {t : TA} {f : Env → R D} {g : Env → R (List D)} {k ka : Nat} (h : SE K W C ks te f k) (hr : SA K W C ks t g ka) :
    SA K W C ks (tCons te t) (fun env => f env >>= fun d => g env >>= fun ds => .ok (d :: ds)) (minK k ka) := fun H0 Zc env σ H Z Fs Q s q => by
  unfold minK at q
  by_cases h0 : k = 0 ∨ ka = 0
  · rw [if_pos h0] at q
    refine h.read H0 Zc env σ H Z Fs _ s (q.bind.mono (fun d q v H1 Z1 F1 x1 fr1 vl1 => ?_) fun c q => q)
    refine hr.read H0 Zc env σ H1 Z1 Fs _ (s.go x1) (q.bind.mono (fun ds q vs H2 Z2 F2 x2 fr2 vl2 => ?_) fun c q H2 Z2 x2 => q H2 Z2 (x1.trans x2))
    obtain ⟨rfl, vl1⟩ := vl1
    obtain ⟨rfl, vl2⟩ := vl2
    exact q (v :: vs) H2 Z2 [] (x1.trans x2) Fr.nil ⟨rfl, v, vs, rfl, vl1.keep (Kp.of_same x2.same) (dom_mono x2.same), vl2⟩
  · rw [if_neg h0] at q
    by_cases h3 : k = 3 ∧ ka = 3
    · rw [if_pos h3] at q
      obtain ⟨rfl, rfl⟩ := h3
      refine h H0 Zc env σ H Z Fs _ s (q.bind.mono (fun d q v H1 Z1 F1 x1 fr1 vl1 => ?_) fun c q => q)
      refine hr H0 Zc env σ H1 Z1 Fs _ (s.go x1) (q.bind.mono (fun ds q vs H2 Z2 F2 x2 fr2 vl2 => ?_) fun c q H2 Z2 x2 => q H2 Z2 (x1.trans x2))
      have fr1' := fr1.ext vl1.dom x2
      refine q (v :: vs) H2 Z2 (F1 ++ F2) (x1.trans x2) ⟨List.nodup_append.mpr ⟨fr1.nd, fr2.nd, fun a m b m' e => ?_⟩, fun a m => ?_⟩ ⟨v, vs, F1, F2, rfl, rfl, vl1.ext x2, vl2⟩
      · subst e
        exact vl1.dom a m (fr2.nw a m').1
      · rcases List.mem_append.mp m with m | m
        · exact fr1'.nw a m
        · exact ⟨x1.same.free (fr2.nw a m).1, (fr2.nw a m).2⟩
    · rw [if_neg h3] at q
      have h' := h.less
      have hr' := hr.less
      unfold lessK at h' hr'
      rw [if_neg (by omega)] at h' hr'
      refine h' H0 Zc env σ H Z Fs _ s (q.bind.mono (fun d q v H1 Z1 F1 x1 fr1 vl1 => ?_) fun c q => q)
      refine hr' H0 Zc env σ H1 Z1 Fs _ (s.go x1) (q.bind.mono (fun ds q vs H2 Z2 F2 x2 fr2 vl2 => ?_) fun c q H2 Z2 x2 => q H2 Z2 (x1.trans x2))
      obtain ⟨rfl, vl1⟩ := vl1
      obtain ⟨rfl, vl2⟩ := vl2
      exact q (v :: vs) H2 Z2 [] (x1.trans x2) Fr.nil ⟨rfl, v, vs, rfl, vl1.keep x2.keep x2.zm, vl2⟩

/-! ### names, constants, displays -/
def getV (i : Nat) (env : Env) : R D := match env[i]? with
  | some (some d) => .ok d
  | _ => .bad
def nameK (k : Nat) : Nat := if k = 1 then 1 else 0
theorem SE.name (i : Nat) : SE K W C ks (tVar i) (getV i) (nameK (ks.getD i 1)) := fun H0 Zc env σ H Z Fs Q s q => by
  unfold getV at q
  cases e : env[i]? with
  | none => rw [e] at q; exact q.elim
  | some o =>
    cases o with
    | none => rw [e] at q; exact q.elim
    | some d =>
      rw [e] at q
      obtain ⟨v, h1, h2, h3⟩ := s.slot i d e
      refine ⟨v, h1, ?_⟩
      unfold nameK at q
      by_cases hk : ks.getD i 1 = 1
      · rw [if_pos hk] at q
        rw [hk] at h3
        exact q v H Z [] (Ext.refl s.ext.zd) Fr.nil ⟨rfl, h3.2⟩
      · rw [if_neg hk] at q
        exact q v H Z [] (Ext.refl s.ext.zd) Fr.nil ⟨rfl, h3.is0 s.ext.zd⟩
theorem SE.const {v : V} {d : D} (h : ∀ H, Ow K H d v []) : SE K W C ks (tC v) (fun _ => .ok d) 3 := fun H0 Zc env σ H Z Fs Q s q => q v H Z [] (Ext.refl s.ext.zd) Fr.nil (h H)
def lineR (n : Nat) : R Unit := if n ≤ sizeLine then .ok () else .bad
def tupR (ds : List D) : R D := if ds.length ≤ sizeLine then .ok (.tup ds) else .bad
def lstR (ds : List D) : R D := if ds.length ≤ sizeLine then .ok (.lst ds) else .bad
theorem same_new {H : Hp} {p : Addr} {o : HO} (h : H p = none) : Same H (upd H p o) := fun b x e => by
  rw [upd_ne (ne_of_none e h)]; exact e
theorem Ext.new {Z : Zs} {H : Hp} {p : Addr} {o : HO} (zd : ∀ a, Z a → H a ≠ none) (h : H p = none) : Ext Z Z H (upd H p o) :=
  ⟨same_new h, fun _ z => z, fun _ z => .inl z, fun a z => dom_mono (same_new h) a (zd a z)⟩
theorem SE.tup {t : TA} {f : Env → R (List D)} {k : Nat} (h : SA K W C ks t f k) : SE K W C ks (tTup t) (fun env => f env >>= tupR) k := fun H0 Zc env σ H Z Fs Q s q => by
  refine h H0 Zc env σ H Z Fs _ s (q.bind.mono (fun ds q vs H1 Z1 F x fr vl => ?_) fun c q => q)
  unfold tupR at q
  by_cases hl : ds.length ≤ sizeLine
  · rw [if_pos hl] at q
    have el : vs.length = ds.length := (vl.is0 x.zd).len
    refine ⟨by rw [el]; exact hl, fun p hp => ?_⟩
    have xn := Ext.new (o := .tup vs) x.zd hp
    have hT : upd H1 p (.tup vs) p = some (.tup vs) := upd_same
    have fr' : Fr Z1 H F := fr
    match k, vl with
    | 0, vl => exact q _ _ Z1 F (x.trans xn) fr ⟨vl.1, p, vs, rfl, hT, vl.2.keep (Kp.of_same xn.same) (dom_mono xn.same)⟩
    | 1, vl => exact q _ _ Z1 F (x.trans xn) fr ⟨vl.1, p, vs, rfl, hT, vl.2.keep xn.keep xn.zm⟩
    | 2, vl => exact q _ _ Z1 F (x.trans xn) fr ⟨vl.1, p, vs, rfl, hT, vl.2.keep xn.keep xn.zm⟩
    | n + 3, vl => exact q _ _ Z1 F (x.trans xn) fr ⟨p, vs, rfl, hT, OwL.keep xn.keep vl fun a m => same_at xn.same (OwL.dom vl a m)⟩
  · rw [if_neg hl] at q
    exact q.elim
def lstK (k : Nat) : Nat := if k = 0 then 0 else if k = 3 then 3 else 2
/-- a new list of what is held so -/
theorem newList {H0 H1 : Hp} {Z Z1 : Zs} {p : Addr} {vs : List V} {ds : List D} {k : Nat} {F : List Addr} (x : Ext Z Z1 H0 H1) (fr : Fr Z1 H0 F) (vl : VlL K H1 Z1 k F ds vs) (hk : k = 0 ∨ k = 1 ∨ k = 3) (hp : H1 p = none) :
    ∃ F', Ext Z Z1 H0 (upd H1 p (.lst vs)) ∧ Fr Z1 H0 F' ∧ Vl K (upd H1 p (.lst vs)) Z1 (lstK k) F' (.lst ds) (.ref p) := by
  have xn := Ext.new (o := .lst vs) x.zd hp
  have np : ¬ Z1 p := fun z => x.zd p z hp
  rcases hk with rfl | rfl | rfl
  · refine ⟨[], x.trans xn, Fr.nil, rfl, p, vs, rfl, ⟨?_, upd_same⟩, vl.2.keep (Kp.of_same xn.same) (dom_mono xn.same)⟩
    show upd H1 p (.lst vs) p ≠ none
    rw [upd_same]; simp
  · exact ⟨[p], x.trans xn, ⟨List.nodup_cons.mpr ⟨by simp, List.nodup_nil⟩, fun a m => by rw [List.mem_singleton.mp m]; exact ⟨x.same.free hp, np⟩⟩, p, vs, rfl, rfl, upd_same, vl.2.keep xn.keep xn.zm⟩
  · refine ⟨p :: F, x.trans xn, ⟨List.nodup_cons.mpr ⟨fun m => ?_, fr.nd⟩, fun a m => ?_⟩, p, vs, F, rfl, rfl, upd_same, OwL.keep xn.keep vl fun a m => same_at xn.same (OwL.dom vl a m)⟩
    · exact OwL.dom vl p m hp
    · rcases List.mem_cons.mp m with rfl | m
      · exact ⟨x.same.free hp, np⟩
      · exact fr.nw a m
theorem SE.lst {t : TA} {f : Env → R (List D)} {k : Nat} (h : SA K W C ks t f k) (hk : k = 0 ∨ k = 1 ∨ k = 3) : SE K W C ks (tLst t) (fun env => f env >>= lstR) (lstK k) := fun H0 Zc env σ H Z Fs Q s q => by
  refine h H0 Zc env σ H Z Fs _ s (q.bind.mono (fun ds q vs H1 Z1 F x fr vl => ?_) fun c q => q)
  unfold lstR at q
  by_cases hl : ds.length ≤ sizeLine
  · rw [if_pos hl] at q
    have el : vs.length = ds.length := (vl.is0 x.zd).len
    refine ⟨by rw [el]; exact hl, fun p hp => ?_⟩
    obtain ⟨F', x', fr', vl'⟩ := newList x fr vl hk hp
    exact q _ _ Z1 F' x' fr' vl'
  · rw [if_neg hl] at q
    exact q.elim
end
end Pu

/-! PuC: statements. -/
namespace Pu
open PySem PySem.Spec PyProof.Rows L2

/-- what came of a statement -/
inductive SR where
  | nx (e : Env)
  | rt (d : D)
  | bk (e : Env)
  | ct (e : Env)
  | ex (c : Nat) (e : Env)
  | bad
def So (r : SR) (nx : Env → Prop) (rt : D → Prop) (bk ct : Env → Prop) (ex : Nat → Env → Prop) : Prop := match r with
  | .nx e => nx e
  | .rt d => rt d
  | .bk e => bk e
  | .ct e => ct e
  | .ex c e => ex c e
  | .bad => False
theorem So.mono {r : SR} {nx nx' : Env → Prop} {rt rt' : D → Prop} {bk bk' ct ct' : Env → Prop} {ex ex' : Nat → Env → Prop} (h : So r nx rt bk ct ex)
    (h1 : ∀ e, nx e → nx' e) (h2 : ∀ d, rt d → rt' d) (h3 : ∀ e, bk e → bk' e) (h4 : ∀ e, ct e → ct' e) (h5 : ∀ c e, ex c e → ex' c e) : So r nx' rt' bk' ct' ex' := by
  cases r with
  | nx e => exact h1 e h
  | rt d => exact h2 d h
  | bk e => exact h3 e h
  | ct e => exact h4 e h
  | ex c e => exact h5 c e h
  | bad => exact h
/-- go on where it went on -/
def SR.then (r : SR) (g : Env → SR) : SR := match r with
  | .nx e => g e
  | .rt d => .rt d
  | .bk e => .bk e
  | .ct e => .ct e
  | .ex c e => .ex c e
  | .bad => .bad
theorem So.then {r : SR} {g : Env → SR} {nx : Env → Prop} {rt : D → Prop} {bk ct : Env → Prop} {ex : Nat → Env → Prop} (h : So (r.then g) nx rt bk ct ex) : So r (fun e => So (g e) nx rt bk ct ex) rt bk ct ex := by
  cases r with
  | nx e => exact h
  | rt d => exact h
  | bk e => exact h
  | ct e => exact h
  | ex c e => exact h
  | bad => exact h
/-- an expression's outcome, the state beside it -/
def liftR {α : Type} (env : Env) (r : R α) (g : α → SR) : SR := match r with
  | .ok a => g a
  | .ex c => .ex c env
  | .bad => .bad
theorem So.lift {α : Type} {env : Env} {r : R α} {g : α → SR} {nx : Env → Prop} {rt : D → Prop} {bk ct : Env → Prop} {ex : Nat → Env → Prop} (h : So (liftR env r g) nx rt bk ct ex) : Ro r (fun a => So (g a) nx rt bk ct ex) (fun c => ex c env) := by
  cases r with
  | ok a => exact h
  | ex c => exact h
  | bad => exact h

/-- what is shared stays, and the tuples -/
structure Ev (Z : Zs) (H : Hp) (Z' : Zs) (H' : Hp) : Prop where
  zm : ∀ a, Z a → Z' a
  kp : Kp Z H H'
theorem Ev.refl {Z : Zs} {H : Hp} : Ev Z H Z H := ⟨fun _ z => z, Kp.refl⟩
theorem Kp.trans {Z : Zs} {H H1 H2 : Hp} (a : Kp Z H H1) (b : Kp Z H1 H2) : Kp Z H H2 :=
  ⟨fun c u r q => b.rd c u (a.rd c u r q) q, fun c xs r q => b.ls c xs (a.ls c xs r q) q, fun c xs r => b.tp c xs (a.tp c xs r), fun c o xs r => b.sc c o xs (a.sc c o xs r)⟩
theorem Ev.trans {Z Z1 Z2 : Zs} {H H1 H2 : Hp} (a : Ev Z H Z1 H1) (b : Ev Z1 H1 Z2 H2) : Ev Z H Z2 H2 :=
  ⟨fun c z => b.zm c (a.zm c z), a.kp.trans (b.kp.mono a.zm)⟩
theorem Ext.ev {Z Z' : Zs} {H H' : Hp} (x : Ext Z Z' H H') : Ev Z H Z' H' := ⟨x.zm, x.keep⟩
/-! ### holding less -/
def rootF (d : D) (F : List Addr) : List Addr := match d with
  | .lst _ => F.take 1
  | .dic _ _ _ => F.take 1
  | _ => []
def keepF (k k' : Nat) (d : D) (F : List Addr) : List Addr := if k' ≤ 1 then [] else if k' = 2 ∧ 3 ≤ k then rootF d F else F
theorem keepF_sub {k k' : Nat} {d : D} {F : List Addr} : ∀ a ∈ keepF k k' d F, a ∈ F := fun a m => by
  unfold keepF at m
  split at m
  · simp at m
  · split at m
    · unfold rootF at m
      cases d <;> first | exact List.mem_of_mem_take m | (simp at m)
    · exact m
theorem keepF_nd {k k' : Nat} {d : D} {F : List Addr} (h : F.Nodup) : (keepF k k' d F).Nodup := by
  unfold keepF
  split
  · exact List.nodup_nil
  · split
    · unfold rootF
      cases d <;> first | exact h.sublist (List.take_sublist _ _) | exact List.nodup_nil
    · exact h
theorem Vl.weak {K : PySem.W.Frag} {H : Hp} {Z Z' : Zs} {k k' : Nat} {F : List Addr} {d : D} {v : V} (h : Vl K H Z k F d v) (h1 : 1 ≤ k') (hk : k' ≤ k) (h3 : k ≤ 3) (nd : F.Nodup) (zm : ∀ a, Z a → Z' a) (zf : ∀ a ∈ F, a ∉ keepF k k' d F → Z' a) :
    Vl K H Z' k' (keepF k k' d F) d v := by
  by_cases e1 : k' = 1
  · subst e1
    have e : keepF k 1 d F = [] := by unfold keepF; rw [if_pos (Nat.le_refl _)]
    rw [e] at zf ⊢
    exact ⟨rfl, (h.is1 hk).mono fun a q => q.elim (zm a) fun m => zf a m (by simp)⟩
  · by_cases e2 : k' = 2
    · subst e2
      by_cases e3 : k = 3
      · subst e3
        have eK : keepF 3 2 d F = rootF d F := by unfold keepF; rw [if_neg (by omega), if_pos (by omega)]
        rw [eK] at zf ⊢
        show O1 K H Z' _ d v
        have h : Ow K H d v F := h
        cases d with
        | lst ds =>
          obtain ⟨a, xs, F', ev, f, s, r⟩ := h
          subst f
          refine ⟨a, xs, ev, rfl, s, OwL.is r fun b hb => zf b (List.mem_cons_of_mem _ hb) fun z => ?_⟩
          have z' : b = a := List.mem_singleton.mp z
          subst z'
          exact (List.nodup_cons.mp nd).1 hb
        | dic r ks vs =>
          obtain ⟨a, xs, u, F', ev, f, s, q, r⟩ := h
          subst f
          refine ⟨a, xs, u, ev, rfl, s, q, OwL.is r fun b hb => zf b (List.mem_cons_of_mem _ hb) fun z => ?_⟩
          have z' : b = a := List.mem_singleton.mp z
          subst z'
          exact (List.nodup_cons.mp nd).1 hb
        | non => exact ⟨rfl, h.1⟩
        | bl _ => exact ⟨rfl, h.1⟩
        | int _ => exact ⟨rfl, h.1⟩
        | str _ => exact ⟨rfl, h.1.1, h.2⟩
        | tup ds => exact ⟨rfl, Ow.is h fun b hb => zf b hb (by unfold rootF; simp)⟩
        | exc _ => exact h.elim
        | scr _ => obtain ⟨a, ev, f, s⟩ := h; exact ⟨rfl, a, ev, s⟩
      · have e4 : k = 2 := by omega
        subst e4
        have e : keepF 2 2 d F = F := by unfold keepF; rw [if_neg (by omega), if_neg (by omega)]
        rw [e]
        exact O1.keep h Kp.refl zm fun _ _ => rfl
    · have e4 : k' = 3 := by omega
      have e5 : k = 3 := by omega
      subst e4 e5
      have e : keepF 3 3 d F = F := by unfold keepF; rw [if_neg (by omega), if_neg (by omega)]
      rw [e]
      exact h

/-- kinds are less -/
def leK (ks' ks : List Nat) : Bool := (ks'.length == ks.length) && (List.range ks'.length).all fun i => decide (1 ≤ ks'.getD i 1) && decide (ks'.getD i 1 ≤ ks.getD i 1) && decide (ks.getD i 1 ≤ 3)
theorem leK_at {ks' ks : List Nat} (h : leK ks' ks = true) (i : Nat) : 1 ≤ ks'.getD i 1 ∧ ks'.getD i 1 ≤ ks.getD i 1 ∧ ks.getD i 1 ≤ 3 := by
  unfold leK at h
  rw [Bool.and_eq_true] at h
  obtain ⟨h1, h2⟩ := h
  have h1 : ks'.length = ks.length := by simpa using h1
  by_cases hi : i < ks'.length
  · have := List.all_eq_true.mp h2 i (List.mem_range.mpr hi)
    simp only [Bool.and_eq_true, decide_eq_true_eq] at this
    exact ⟨this.1.1, this.1.2, this.2⟩
  · have e1 : ks'.getD i 1 = 1 := by
      rw [List.getD_eq_getElem?_getD, List.getElem?_eq_none (by omega)]; rfl
    have e2 : ks.getD i 1 = 1 := by
      rw [List.getD_eq_getElem?_getD, List.getElem?_eq_none (by omega)]; rfl
    rw [e1, e2]
    omega
section
variable {K : PySem.W.Frag} {H0 : Hp} {Zc : Zs} {ks ks' : List Nat} {env : Env} {σ : St} {H : Hp} {Z : Zs} {Fs : Nat → List Addr}
theorem SI.weak (s : SI K H0 Zc ks env σ H Z Fs) (h : leK ks' ks = true) : ∃ Z' Fs', SI K H0 Zc ks' env σ H Z' Fs' ∧ Ev Z H Z' H ∧ (∀ a, Z' a → Z a ∨ ∃ i, a ∈ Fs i) := by
  let kF : Nat → List Addr := fun i => match env[i]? with
    | some (some d) => keepF (ks.getD i 1) (ks'.getD i 1) d (Fs i)
    | _ => []
  have kFe : ∀ i d, env[i]? = some (some d) → kF i = keepF (ks.getD i 1) (ks'.getD i 1) d (Fs i) := fun i d e => by
    show (match env[i]? with | some (some d) => keepF (ks.getD i 1) (ks'.getD i 1) d (Fs i) | _ => []) = _
    rw [e]
  have kFs : ∀ i a, a ∈ kF i → a ∈ Fs i := fun i a m => by
    have m : a ∈ (match env[i]? with | some (some d) => keepF (ks.getD i 1) (ks'.getD i 1) d (Fs i) | _ => []) := m
    split at m
    · exact keepF_sub a m
    · simp at m
  refine ⟨fun a => Z a ∨ ∃ i, a ∈ Fs i ∧ a ∉ kF i, kF, ⟨s.len, fun i d e => ?_, fun i j a m1 m2 => s.disj i j a (kFs i a m1) (kFs j a m2), fun i => ?_, fun i a m => ?_, ?_⟩, ⟨fun a z => .inl z, Kp.refl⟩, fun a z => z.imp_right fun ⟨i, m, _⟩ => ⟨i, m⟩⟩
  · obtain ⟨v, h1, h2, h3⟩ := s.slot i d e
    obtain ⟨l1, l2, l3⟩ := leK_at h i
    refine ⟨v, h1, l1, ?_⟩
    rw [kFe i d e]
    exact h3.weak l1 l2 l3 (s.nd i) (fun a z => .inl z) fun a m n => .inr ⟨i, m, by rw [kFe i d e]; exact n⟩
  · show (match env[i]? with | some (some d) => keepF (ks.getD i 1) (ks'.getD i 1) d (Fs i) | _ => []).Nodup
    split
    · exact keepF_nd (s.nd i)
    · exact List.nodup_nil
  · obtain ⟨o1, o2, o3⟩ := s.own i a (kFs i a m)
    refine ⟨fun z => ?_, o2, o3⟩
    rcases z with z | ⟨j, m1, m2⟩
    · exact o1 z
    · have e := s.disj i j a (kFs i a m) m1
      subst e
      exact m2 m
  · refine ⟨s.ext.same, fun a z => .inl (s.ext.zm a z), fun a z => ?_, fun a z => ?_⟩
    · rcases z with z | ⟨j, m1, _⟩
      · exact s.ext.zn a z
      · exact .inr (s.own j a m1).2.1
    · rcases z with z | ⟨j, m1, _⟩
      · exact s.ext.zd a z
      · exact (s.own j a m1).2.2
def setF (Fs : Nat → List Addr) (i : Nat) (F : List Addr) : Nat → List Addr := fun j => if j = i then F else Fs j
theorem getD_set {l : List Nat} {i j k : Nat} (h : i < l.length) : (l.set i k).getD j 1 = if j = i then k else l.getD j 1 := by
  rw [List.getD_eq_getElem?_getD, List.getD_eq_getElem?_getD, List.getElem?_set]
  by_cases e : i = j
  · subst e; simp [h]
  · rw [if_neg e, if_neg (fun z => e z.symm)]
/-- a slot gets a value -/
theorem SI.set (s : SI K H0 Zc ks env σ H Z Fs) {i k : Nat} {F : List Addr} {d : D} {v : V} (hi : i < ks.length) (hk : 1 ≤ k) (vl : Vl K H Z k F d v) (fr : F.Nodup) (nw : ∀ a ∈ F, ¬ Z a ∧ H0 a = none ∧ ∀ j, j ≠ i → a ∉ Fs j) :
    SI K H0 Zc (ks.set i k) (env.set i (some d)) (σ.set i (some v)) H Z (setF Fs i F) where
  len := by rw [List.length_set, List.length_set]; exact s.len
  slot := fun j e hj => by
    rw [List.getElem?_set] at hj
    rw [getD_set hi, List.getElem?_set]
    unfold setF
    by_cases ej : i = j
    · subst ej
      rw [if_pos rfl] at hj
      split at hj
      · rename_i hl
        have : d = e := by simpa using hj
        subst this
        rw [if_pos rfl, if_pos rfl, if_pos rfl, if_pos (by rw [s.len]; exact hl)]
        exact ⟨v, rfl, hk, vl⟩
      · cases hj
    · have ej' : ¬ j = i := fun z => ej z.symm
      rw [if_neg ej] at hj ⊢
      rw [if_neg ej', if_neg ej']
      exact s.slot j e hj
  disj := fun a b x m1 m2 => by
    unfold setF at m1 m2
    by_cases ea : a = i
    · rw [if_pos ea] at m1
      by_cases eb : b = i
      · rw [ea, eb]
      · rw [if_neg eb] at m2
        exact ((nw x m1).2.2 b eb m2).elim
    · rw [if_neg ea] at m1
      by_cases eb : b = i
      · rw [if_pos eb] at m2
        exact ((nw x m2).2.2 a ea m1).elim
      · rw [if_neg eb] at m2
        exact s.disj a b x m1 m2
  nd := fun j => by
    unfold setF
    split
    · exact fr
    · exact s.nd j
  own := fun j a m => by
    unfold setF at m
    split at m
    · exact ⟨(nw a m).1, (nw a m).2.1, vl.dom a m⟩
    · exact s.own j a m
  ext := s.ext
/-- .. of what is new -/
theorem SI.setNew (s : SI K H0 Zc ks env σ H Z Fs) {H1 : Hp} {Z1 : Zs} {i k : Nat} {F : List Addr} {d : D} {v : V} (x : Ext Z Z1 H H1) (hi : i < ks.length) (hk : 1 ≤ k) (vl : Vl K H1 Z1 k F d v) (fr : Fr Z1 H F) :
    SI K H0 Zc (ks.set i k) (env.set i (some d)) (σ.set i (some v)) H1 Z1 (setF Fs i F) :=
  (s.go x).set hi hk vl fr.nd fun a m => ⟨(fr.nw a m).2, s.ext.same.free (fr.nw a m).1, fun j _ m' => (s.own j a m').2.2 (fr.nw a m).1⟩
end

/-! ### statements' readings -/
section
variable (K : PySem.W.Frag) (W : WX) (C : Cs)
def SS (ks : List Nat) (t : TS) (g : Env → SR) (kn kl kx : List Nat) (kr : Nat) : Prop := ∀ (H0 : Hp) (Zc : Zs) (env : Env) (σ : St) (H : Hp) (Z : Zs) (Fs : Nat → List Addr) (D : Ends), SI K H0 Zc ks env σ H Z Fs →
  So (g env) (fun e => ∀ σ' H' Z' Fs', SI K H0 Zc kn e σ' H' Z' Fs' → Ev Z H Z' H' → D.nx σ' H') (fun d => ∀ v H' Z' F, Ext Zc Z' H0 H' → Fr Z' H0 F → Vl K H' Z' kr F d v → D.rt v H')
    (fun e => ∀ σ' H' Z' Fs', SI K H0 Zc kl e σ' H' Z' Fs' → Ev Z H Z' H' → D.bk σ' H') (fun e => ∀ σ' H' Z' Fs', SI K H0 Zc kl e σ' H' Z' Fs' → Ev Z H Z' H' → D.ct σ' H')
    (fun c e => ∀ σ' H' Z' Fs', SI K H0 Zc kx e σ' H' Z' Fs' → W (C c) none σ' H') → t D σ H
/-- the slots but these are as they were -/
structure Only (is : List Nat) (σ σ' : St) : Prop where
  len : σ'.length = σ.length
  at' : ∀ j, j ∉ is → σ'[j]? = σ[j]?
theorem Only.refl {is : List Nat} {σ : St} : Only is σ σ := ⟨rfl, fun _ _ => rfl⟩
theorem Only.trans {is js : List Nat} {σ σ1 σ2 : St} (a : Only is σ σ1) (b : Only js σ1 σ2) : Only (is ++ js) σ σ2 :=
  ⟨b.len.trans a.len, fun j m => (b.at' j fun z => m (List.mem_append_right _ z)).trans (a.at' j fun z => m (List.mem_append_left _ z))⟩
/-- a target's: what is stored is held at least as shared -/
def SG (ks : List Nat) (g : TG) (h : D → Env → Option Env) (k : Nat) (kn is : List Nat) : Prop := ∀ (H0 : Hp) (Zc : Zs) (env : Env) (σ : St) (H : Hp) (Z : Zs) (Fs : Nat → List Addr) (d : D) (v : V) (F : List Addr) (Q : St → Hp → Prop), SI K H0 Zc ks env σ H Z Fs →
  Vl K H Z k F d v → F.Nodup → (∀ a ∈ F, ¬ Z a ∧ H0 a = none ∧ ∀ j, a ∉ Fs j) → (∃ e, h d env = some e ∧ ∀ σ' Fs', Only is σ σ' → SI K H0 Zc kn e σ' H Z Fs' → Q σ' H) → g v σ H Q
end
section
variable {K : PySem.W.Frag} {W : WX} {C : Cs} {ks kn kl kx k1 : List Nat} {kr k : Nat} {t u : TS} {g g2 : Env → SR}
/-- kinds ahead, behind held less -/
theorem SS.weak {ks' kn' kl' kx' : List Nat} (h : SS K W C ks t g kn kl kx kr) (h0 : leK ks ks' = true) (h1 : leK kn' kn = true) (h2 : leK kl' kl = true) (h3 : leK kx' kx = true) : SS K W C ks' t g kn' kl' kx' kr := fun H0 Zc env σ H Z Fs D s q => by
  obtain ⟨Z', Fs', s', e', _⟩ := s.weak h0
  refine h H0 Zc env σ H Z' Fs' D s' (q.mono (fun e q σ2 H2 Z2 Fs2 s2 e2 => ?_) (fun d q => q) (fun e q σ2 H2 Z2 Fs2 s2 e2 => ?_) (fun e q σ2 H2 Z2 Fs2 s2 e2 => ?_) fun c e q σ2 H2 Z2 Fs2 s2 => ?_)
  · obtain ⟨Z3, Fs3, s3, e3, _⟩ := s2.weak h1
    exact q _ _ _ _ s3 ((e'.trans e2).trans e3)
  · obtain ⟨Z3, Fs3, s3, e3, _⟩ := s2.weak h2
    exact q _ _ _ _ s3 ((e'.trans e2).trans e3)
  · obtain ⟨Z3, Fs3, s3, e3, _⟩ := s2.weak h2
    exact q _ _ _ _ s3 ((e'.trans e2).trans e3)
  · obtain ⟨Z3, Fs3, s3, e3, _⟩ := s2.weak h3
    exact q _ _ _ _ s3
theorem SS.nil : SS K W C ks tNext (fun e => .nx e) ks kl kx kr := fun H0 Zc env σ H Z Fs D s q => q σ H Z Fs s Ev.refl
theorem SS.seq (h : SS K W C ks t g k1 kl kx kr) (h2 : SS K W C k1 u g2 kn kl kx kr) : SS K W C ks (tSeq t u) (fun e => (g e).then g2) kn kl kx kr := fun H0 Zc env σ H Z Fs D s q => by
  refine h H0 Zc env σ H Z Fs { D with nx := u D } s (q.then.mono (fun e q σ2 H2 Z2 Fs2 s2 e2 => ?_) (fun d q => q) (fun e q => q) (fun e q => q) fun c e q => q)
  exact h2 H0 Zc e σ2 H2 Z2 Fs2 D s2 (q.mono (fun e q σ3 H3 Z3 Fs3 s3 e3 => q _ _ _ _ s3 (e2.trans e3)) (fun d q => q) (fun e q σ3 H3 Z3 Fs3 s3 e3 => q _ _ _ _ s3 (e2.trans e3))
    (fun e q σ3 H3 Z3 Fs3 s3 e3 => q _ _ _ _ s3 (e2.trans e3)) fun c e q => q)
theorem SS.brk : SS K W C ks tBreak (fun e => .bk e) kn ks kx kr := fun H0 Zc env σ H Z Fs D s q => q σ H Z Fs s Ev.refl
theorem SS.cont : SS K W C ks tCont (fun e => .ct e) kn ks kx kr := fun H0 Zc env σ H Z Fs D s q => q σ H Z Fs s Ev.refl
def iteS (b : Bool) (x y : SR) : SR := if b = true then x else y
theorem SS.ite {tc : TT} {f : Env → R Bool} (hx : leK kx ks = true) (hc : ST K W C ks tc f) (h : SS K W C ks t g kn kl kx kr) (h2 : SS K W C ks u g2 kn kl kx kr) :
    SS K W C ks (tIfS tc t u) (fun e => liftR e (f e) fun b => if b = true then g e else g2 e) kn kl kx kr := fun H0 Zc env σ H Z Fs D s q => by
  refine hc H0 Zc env σ H Z Fs _ s (q.lift.mono (fun b q H1 Z1 x => ?_) fun c q H1 Z1 x => ?_)
  · cases b with
    | true =>
      rw [if_pos rfl] at q ⊢
      exact h H0 Zc env σ H1 Z1 Fs D (s.go x) (q.mono (fun e q σ3 H3 Z3 Fs3 s3 e3 => q _ _ _ _ s3 (x.ev.trans e3)) (fun d q => q) (fun e q σ3 H3 Z3 Fs3 s3 e3 => q _ _ _ _ s3 (x.ev.trans e3))
        (fun e q σ3 H3 Z3 Fs3 s3 e3 => q _ _ _ _ s3 (x.ev.trans e3)) fun c e q => q)
    | false =>
      rw [if_neg Bool.false_ne_true] at q ⊢
      exact h2 H0 Zc env σ H1 Z1 Fs D (s.go x) (q.mono (fun e q σ3 H3 Z3 Fs3 s3 e3 => q _ _ _ _ s3 (x.ev.trans e3)) (fun d q => q) (fun e q σ3 H3 Z3 Fs3 s3 e3 => q _ _ _ _ s3 (x.ev.trans e3))
        (fun e q σ3 H3 Z3 Fs3 s3 e3 => q _ _ _ _ s3 (x.ev.trans e3)) fun c e q => q)
  · obtain ⟨Z3, Fs3, s3, e3, _⟩ := (s.go x).weak hx
    exact q _ _ _ _ s3
theorem SS.drop {te : TE} {f : Env → R D} (hx : leK kx ks = true) (h : SE K W C ks te f k) : SS K W C ks (tDrop te) (fun e => liftR e (f e) fun _ => .nx e) ks kl kx kr := fun H0 Zc env σ H Z Fs D s q => by
  refine h H0 Zc env σ H Z Fs _ s (q.lift.mono (fun d q v H1 Z1 F x fr vl => q σ H1 Z1 Fs (s.go x) x.ev) fun c q H1 Z1 x => ?_)
  obtain ⟨Z3, Fs3, s3, e3, _⟩ := (s.go x).weak hx
  exact q _ _ _ _ s3
theorem SS.retN : SS K W C ks tRetN (fun _ => .rt .non) kn kl kx kr := fun H0 Zc env σ H Z Fs D s q => by
  refine q .non H Z [] s.ext Fr.nil ?_
  match kr with
  | 0 => exact ⟨rfl, rfl⟩
  | 1 => exact ⟨rfl, rfl⟩
  | 2 => exact ⟨rfl, rfl⟩
  | n + 3 => exact ⟨rfl, rfl⟩
/-- kr is asked, k is there -/
theorem SS.ret {te : TE} {f : Env → R D} (hx : leK kx ks = true) (h : SE K W C ks te f k) (h1 : 1 ≤ kr) (h2 : kr ≤ k) (h3 : k ≤ 3) : SS K W C ks (tRet te) (fun e => liftR e (f e) .rt) kn kl kx kr := fun H0 Zc env σ H Z Fs D s q => by
  refine h H0 Zc env σ H Z Fs _ s (q.lift.mono (fun d q v H1 Z1 F x fr vl => ?_) fun c q H1 Z1 x => ?_)
  · have xx := s.ext.trans x
    have fr0 : Fr Z1 H0 F := ⟨fr.nd, fun a m => ⟨s.ext.same.free (fr.nw a m).1, (fr.nw a m).2⟩⟩
    have vl' := vl.weak (Z' := fun a => Z1 a ∨ (a ∈ F ∧ a ∉ keepF k kr d F)) h1 h2 h3 fr.nd (fun a z => .inl z) fun a m n => .inr ⟨m, n⟩
    refine q v H1 _ _ ⟨xx.same, fun a z => .inl (xx.zm a z), fun a z => ?_, fun a z => ?_⟩ ⟨keepF_nd fr.nd, fun a m => ⟨(fr0.nw a (keepF_sub a m)).1, fun z => ?_⟩⟩ vl'
    · rcases z with z | ⟨m, _⟩
      · exact xx.zn a z
      · exact .inr (fr0.nw a m).1
    · rcases z with z | ⟨m, _⟩
      · exact xx.zd a z
      · exact vl.dom a m
    · rcases z with z | ⟨_, n⟩
      · exact (fr0.nw a (keepF_sub a m)).2 z
      · exact n m
  · obtain ⟨Z3, Fs3, s3, e3, _⟩ := (s.go x).weak hx
    exact q _ _ _ _ s3
/-- a slot's own value is handed back -/
theorem SS.retOwn {i : Nat} (h1 : 1 ≤ kr) (h2 : kr ≤ ks.getD i 1) (h3 : ks.getD i 1 ≤ 3) : SS K W C ks (tRet (tVar i)) (fun e => liftR e (getV i e) .rt) kn kl kx kr := fun H0 Zc env σ H Z Fs D s q => by
  have q : So (liftR env (getV i env) SR.rt) _ _ _ _ _ := q
  unfold getV at q
  cases e : env[i]? with
  | none => rw [e] at q; exact q.elim
  | some o =>
    cases o with
    | none => rw [e] at q; exact q.elim
    | some d =>
      rw [e] at q
      obtain ⟨v, hv, _, vl⟩ := s.slot i d e
      refine ⟨v, hv, ?_⟩
      have vl' := vl.weak (Z' := fun a => Z a ∨ (a ∈ Fs i ∧ a ∉ keepF (ks.getD i 1) kr d (Fs i))) h1 h2 h3 (s.nd i) (fun a z => .inl z) fun a m n => .inr ⟨m, n⟩
      refine q v H _ _ ⟨s.ext.same, fun a z => .inl (s.ext.zm a z), fun a z => ?_, fun a z => ?_⟩ ⟨keepF_nd (s.nd i), fun a m => ⟨(s.own i a (keepF_sub a m)).2.1, fun z => ?_⟩⟩ vl'
      · rcases z with z | ⟨m, _⟩
        · exact s.ext.zn a z
        · exact .inr (s.own i a m).2.1
      · rcases z with z | ⟨m, _⟩
        · exact s.ext.zd a z
        · exact (s.own i a m).2.2
      · rcases z with z | ⟨_, n⟩
        · exact (s.own i a (keepF_sub a m)).1 z
        · exact n m
/-- raise -/
theorem SS.raise {tm : St → Hp → XK → Prop} {c : Nat} (hx : leK kx ks = true) (hm : ∀ σ H (Q : XK), Q (C c) none H → tm σ H Q) : SS K W C ks (fun _ σ H => tm σ H fun cls d H' => W cls d σ H') (fun e => .ex c e) kn kl kx kr := fun H0 Zc env σ H Z Fs D s q => by
  obtain ⟨Z3, Fs3, s3, e3, _⟩ := s.weak hx
  exact hm σ H _ (q _ _ _ _ s3)

/-! ### targets -/
theorem SG.name {i : Nat} (hi : i < ks.length) (hk : 1 ≤ k) : SG K ks (gName i) (fun d e => some (e.set i (some d))) k (ks.set i k) [i] := fun H0 Zc env σ H Z Fs d v F Q s vl nd nw ⟨_, eq, q⟩ => by
  cases eq
  exact q _ _ ⟨List.length_set, fun j m => List.getElem?_set_ne (fun z => m (by rw [z]; simp))⟩ (s.set hi hk vl nd fun a m => ⟨(nw a m).1, (nw a m).2.1, fun j _ => (nw a m).2.2 j⟩)
/-- a target of several -/
def SGs (K : PySem.W.Frag) (ks : List Nat) (g : TGs) (h : List D → Env → Option Env) (kn is : List Nat) : Prop := ∀ (H0 : Hp) (Zc : Zs) (env : Env) (σ : St) (H : Hp) (Z : Zs) (Fs : Nat → List Addr) (ds : List D) (vs : List V) (Q : St → Hp → Prop), SI K H0 Zc ks env σ H Z Fs →
  IsL K H Z ds vs → (∃ e, h ds env = some e ∧ ∀ σ' Fs', Only is σ σ' → SI K H0 Zc kn e σ' H Z Fs' → Q σ' H) → g vs σ H Q
def nilT (ds : List D) (e : Env) : Option Env := match ds with
  | [] => some e
  | _ => none
theorem SGs.nil : SGs K ks gNil nilT ks [] := fun H0 Zc env σ H Z Fs ds vs Q s vl ⟨e, eq, q⟩ => by
  cases ds with
  | nil => cases eq; exact ⟨vl, q σ Fs Only.refl s⟩
  | cons d ds => cases eq
def consT (h : D → Env → Option Env) (h2 : List D → Env → Option Env) (ds : List D) (e : Env) : Option Env := match ds with
  | d :: r => (h d e).bind (h2 r)
  | [] => none
theorem SGs.cons {g : TG} {gs : TGs} {is js : List Nat} {h : D → Env → Option Env} {h2 : List D → Env → Option Env} (hg : SG K ks g h 1 k1 is) (hs : SGs K k1 gs h2 kn js) : SGs K ks (gCons g gs) (consT h h2) kn (is ++ js) := fun H0 Zc env σ H Z Fs ds vs Q s vl ⟨e, eq, q⟩ => by
  cases ds with
  | nil => cases eq
  | cons d ds =>
    obtain ⟨x, r, ex, h1, t⟩ := vl
    obtain ⟨e1, eq1, eq2⟩ := Option.bind_eq_some_iff.mp eq
    refine ⟨x, r, ex, hg H0 Zc env σ H Z Fs d x [] _ s ⟨rfl, h1⟩ List.nodup_nil (fun _ m => by simp at m) ⟨e1, eq1, fun σ2 Fs2 o2 s2 => ?_⟩⟩
    exact hs H0 Zc e1 σ2 H Z Fs2 ds r Q s2 t ⟨e, eq2, fun σ3 Fs3 o3 s3 => q _ _ (o2.trans o3) s3⟩
def tupT (n : Nat) (h : List D → Env → Option Env) (d : D) (e : Env) : Option Env := match d with
  | .tup ds => if ds.length = n then h ds e else none
  | _ => none
theorem SG.tup {gs : TGs} {n : Nat} {is : List Nat} {h : List D → Env → Option Env} (hs : SGs K ks gs h kn is) : SG K ks (gTup K n gs) (tupT n h) 1 kn is := fun H0 Zc env σ H Z Fs d v F Q s vl nd nw ⟨e, eq, q⟩ => by
  cases d with
  | tup ds =>
    obtain ⟨_, a, xs, ev, sq, r⟩ := vl
    have eq : (if ds.length = n then h ds env else none) = some e := eq
    by_cases hl : ds.length = n
    · rw [if_pos hl] at eq
      exact ⟨a, xs, ev, .inl (.inl sq), by rw [r.len]; exact hl, hs H0 Zc env σ H Z Fs ds xs Q s r ⟨e, eq, q⟩⟩
    · rw [if_neg hl] at eq
      cases eq
  | _ => cases eq
/-- a store -/
def optS (o : Option Env) : SR := match o with
  | some e => .nx e
  | none => .bad
theorem SS.asg {te : TE} {f : Env → R D} {gt : TG} {h : D → Env → Option Env} {is : List Nat} (hx : leK kx ks = true) (he : SE K W C ks te f k) (hg : SG K ks gt h k kn is) :
    SS K W C ks (tAsg te gt) (fun e => liftR e (f e) fun d => optS (h d e)) kn kl kx kr := fun H0 Zc env σ H Z Fs D s q => by
  refine he H0 Zc env σ H Z Fs _ s (q.lift.mono (fun d q v H1 Z1 F x fr vl => ?_) fun c q H1 Z1 x => ?_)
  · refine hg H0 Zc env σ H1 Z1 Fs d v F _ (s.go x) vl fr.nd (fun a m => ⟨(fr.nw a m).2, s.ext.same.free (fr.nw a m).1, fun j m' => (s.own j a m').2.2 (fr.nw a m).1⟩) ?_
    cases hd : h d env with
    | some e =>
      rw [hd] at q
      exact ⟨e, rfl, fun σ' Fs' _ s' => q _ _ _ _ s' x.ev⟩
    | none => rw [hd] at q; exact q.elim
  · obtain ⟨Z3, Fs3, s3, e3, _⟩ := (s.go x).weak hx
    exact q _ _ _ _ s3
end
end Pu

/-! PuD: loops, comprehensions, tests. -/
namespace Pu
open PySem PySem.Spec PyProof.Rows L2

/-! ### what is walked -/
structure Stream (K : PySem.W.Frag) (J : It) (ds : List D) (Z : Zs) (H : Hp) : Prop where
  go : ∀ i Z2 H2, i < ds.length → Ev Z H Z2 H2 → J.go i H2
  yld : ∀ (i : Nat) d Z2 H2 x H3, ds[i]? = some d → Ev Z H Z2 H2 → (∀ a, Z2 a → H2 a ≠ none) → J.yld i H2 x H3 → ∃ Z3, Ext Z2 Z3 H2 H3 ∧ Is K H3 Z3 d x
  stop : ∀ Z2 H2, Ev Z H Z2 H2 → J.stop ds.length H2
def SW (K : PySem.W.Frag) (W : WX) (C : Cs) (ks : List Nat) (wi : TI) (f : Env → R (List D)) : Prop := ∀ (H0 : Hp) (Zc : Zs) (env : Env) (σ : St) (H : Hp) (Z : Zs) (Fs : Nat → List Addr) (Q : It → Hp → Prop), SI K H0 Zc ks env σ H Z Fs →
  Ro (f env) (fun ds => ∀ J H' Z', Ext Z Z' H H' → Stream K J ds Z' H' → Q J H') (fun c => ∀ H' Z', Ext Z Z' H H' → W (C c) none σ H') → wi σ H Q

def forL (b : D → Env → SR) : List D → Env → SR
  | [], e => .nx e
  | d :: ds, e => match b d e with
    | .nx e' => forL b ds e'
    | .ct e' => forL b ds e'
    | .bk e' => .nx e'
    | .rt x => .rt x
    | .ex c e' => .ex c e'
    | .bad => .bad
section
variable {K : PySem.W.Frag} {W : WX} {C : Cs} {ks kn kl kx k1 is : List Nat} {kr k : Nat} {t u : TS} {g g2 : Env → SR}
theorem SS.for {wi : TI} {f : Env → R (List D)} {gt : TG} {h : D → Env → Option Env} (hx : leK kx ks = true) (hw : SW K W C ks wi f) (hg : SG K ks gt h 1 k1 is) (hb : SS K W C k1 t g ks ks kx kr) :
    SS K W C ks (tFor wi gt t) (fun e => liftR e (f e) fun ds => forL (fun d e => (optS (h d e)).then g) ds e) ks kl kx kr := fun H0 Zc env σ H Z Fs D s q => by
  refine hw H0 Zc env σ H Z Fs _ s (q.lift.mono (fun ds q J H1 Z1 x st => ?_) fun c q H1 Z1 x => ?_)
  · let P : Env → Prop := fun e => ∀ σ' H' Z' Fs', SI K H0 Zc ks e σ' H' Z' Fs' → Ev Z1 H1 Z' H' → D.nx σ' H'
    let Pr : Pu.D → Prop := fun d => ∀ v H' Z' F, Ext Zc Z' H0 H' → Fr Z' H0 F → Vl K H' Z' kr F d v → D.rt v H'
    let Px : Nat → Env → Prop := fun c e => ∀ σ' H' Z' Fs', SI K H0 Zc kx e σ' H' Z' Fs' → W (C c) none σ' H'
    refine ⟨fun i m σ H => m = ds.length - i ∧ i ≤ ds.length ∧ ∃ env Z Fs, SI K H0 Zc ks env σ H Z Fs ∧ Ev Z1 H1 Z H ∧ So (forL (fun d e => (optS (h d e)).then g) (ds.drop i) env) P Pr (fun _ => False) (fun _ => False) Px,
      ⟨ds.length, by simp, Nat.zero_le _, env, Z1, Fs, s.go x, Ev.refl, ?_⟩, ?_⟩
    · rw [List.drop_zero]
      -- the loop itself ends in no break, no continue
      have nb : ∀ (l : List Pu.D) (e : Env), So (forL (fun d e => (optS (h d e)).then g) l e) (fun e => ∀ σ' H' Z' Fs', SI K H0 Zc ks e σ' H' Z' Fs' → Ev Z H Z' H' → D.nx σ' H') Pr
          (fun e => ∀ σ' H' Z' Fs', SI K H0 Zc kl e σ' H' Z' Fs' → Ev Z H Z' H' → D.bk σ' H') (fun e => ∀ σ' H' Z' Fs', SI K H0 Zc kl e σ' H' Z' Fs' → Ev Z H Z' H' → D.ct σ' H') Px → So (forL (fun d e => (optS (h d e)).then g) l e) P Pr (fun _ => False) (fun _ => False) Px := by
        intro l
        induction l with
        | nil => intro e q; exact fun σ' H' Z' Fs' s' e' => q σ' H' Z' Fs' s' (x.ev.trans e')
        | cons d l ih =>
          intro e q
          unfold forL at q ⊢
          cases hd : (optS (h d e)).then g with
          | nx e' => rw [hd] at q; exact ih e' q
          | ct e' => rw [hd] at q; exact ih e' q
          | bk e' => rw [hd] at q; exact fun σ' H' Z' Fs' s' e'' => q σ' H' Z' Fs' s' (x.ev.trans e'')
          | rt y => rw [hd] at q; exact q
          | ex c e' => rw [hd] at q; exact q
          | bad => rw [hd] at q; exact q
      exact nb ds env q
    · rintro i m σ3 H3 ⟨rfl, hi, env3, Z3, Fs3, s3, e3, q3⟩
      by_cases hlt : i < ds.length
      · refine .inr ⟨st.go i Z3 H3 hlt e3, fun σ' H' => i + 1 ≤ ds.length ∧ ∃ env Z Fs, SI K H0 Zc ks env σ' H' Z Fs ∧ Ev Z1 H1 Z H' ∧ So (forL (fun d e => (optS (h d e)).then g) (ds.drop (i + 1)) env) P Pr (fun _ => False) (fun _ => False) Px,
          fun σ' H' w => ⟨ds.length - (i + 1), by omega, rfl, w.1, w.2⟩, fun y H4 hy => ?_⟩
        have hd : ds[i]? = some ds[i] := List.getElem?_eq_getElem hlt
        obtain ⟨Z4, x4, is4⟩ := st.yld i _ Z3 H3 y H4 hd e3 s3.ext.zd hy
        rw [List.drop_eq_getElem_cons hlt] at q3
        unfold forL at q3
        have s4 := s3.go x4
        refine hg H0 Zc env3 σ3 H4 Z4 Fs3 ds[i] y [] _ s4 ⟨rfl, is4⟩ List.nodup_nil (fun _ m => by simp at m) ?_
        cases ho : h ds[i] env3 with
        | none => rw [ho] at q3; exact q3.elim
        | some e5 =>
          rw [ho] at q3
          refine ⟨e5, rfl, fun σ5 Fs5 _ s5 => ?_⟩
          refine hb H0 Zc e5 σ5 H4 Z4 Fs5 _ s5 ?_
          have q3 : So (match g e5 with | .nx e' => forL (fun d e => (optS (h d e)).then g) (ds.drop (i + 1)) e' | .ct e' => forL (fun d e => (optS (h d e)).then g) (ds.drop (i + 1)) e' | .bk e' => .nx e' | .rt x => .rt x | .ex c e' => .ex c e' | .bad => .bad) P Pr (fun _ => False) (fun _ => False) Px := q3
          have ev4 := e3.trans x4.ev
          cases hgb : g e5 with
          | nx e6 => rw [hgb] at q3; exact fun σ' H' Z' Fs' s' e' => ⟨hlt, e6, Z', Fs', s', ev4.trans e', q3⟩
          | ct e6 => rw [hgb] at q3; exact fun σ' H' Z' Fs' s' e' => ⟨hlt, e6, Z', Fs', s', ev4.trans e', q3⟩
          | bk e6 => rw [hgb] at q3; exact fun σ' H' Z' Fs' s' e' => q3 σ' H' Z' Fs' s' (ev4.trans e')
          | rt y6 => rw [hgb] at q3; exact q3
          | ex c e6 => rw [hgb] at q3; exact q3
          | bad => rw [hgb] at q3; exact q3.elim
      · have e : i = ds.length := by omega
        subst e
        rw [List.drop_length] at q3
        exact .inl ⟨st.stop Z3 H3 e3, q3 σ3 H3 Z3 Fs3 s3 e3⟩
  · obtain ⟨Z3, Fs3, s3, e3, _⟩ := (s.go x).weak hx
    exact q _ _ _ _ s3

/-! ### while -/
def whileF (c : Env → R Bool) (b : Env → SR) : Nat → Env → Option SR
  | 0, _ => none
  | n + 1, e => match c e with
    | .ex x => some (.ex x e)
    | .bad => some .bad
    | .ok false => some (.nx e)
    | .ok true => match b e with
      | .nx e' => whileF c b n e'
      | .ct e' => whileF c b n e'
      | .bk e' => some (.nx e')
      | .rt d => some (.rt d)
      | .ex x e' => some (.ex x e')
      | .bad => some .bad
theorem whileF_mono {c : Env → R Bool} {b : Env → SR} : ∀ {n m : Nat} {e : Env} {r : SR}, whileF c b n e = some r → n ≤ m → whileF c b m e = some r
  | 0, _, _, _, h, _ => by cases h
  | n + 1, 0, _, _, _, l => by omega
  | n + 1, m + 1, e, r, h, l => by
    unfold whileF at h ⊢
    cases hc : c e with
    | ex x => rw [hc] at h; exact h
    | bad => rw [hc] at h; exact h
    | ok v =>
      rw [hc] at h
      cases v with
      | false => exact h
      | true =>
        cases hb : b e with
        | nx e' => rw [hb] at h; exact whileF_mono (n := n) h (by omega)
        | ct e' => rw [hb] at h; exact whileF_mono (n := n) h (by omega)
        | bk e' => rw [hb] at h; exact h
        | rt d => rw [hb] at h; exact h
        | ex x e' => rw [hb] at h; exact h
        | bad => rw [hb] at h; exact h
open Classical in
noncomputable def whileS (c : Env → R Bool) (b : Env → SR) (e : Env) : SR :=
  if h : ∃ n, ∃ r, whileF c b n e = some r then Classical.choose (Classical.choose_spec h) else .bad
theorem whileS_eq {c : Env → R Bool} {b : Env → SR} {n : Nat} {e : Env} {r : SR} (h : whileF c b n e = some r) : whileS c b e = r := by
  have hh : ∃ n, ∃ r, whileF c b n e = some r := ⟨n, r, h⟩
  unfold whileS
  rw [dif_pos hh]
  have h2 := Classical.choose_spec (Classical.choose_spec hh)
  have h3 := whileF_mono h2 (Nat.le_max_left (Classical.choose hh) n)
  have h4 := whileF_mono h (Nat.le_max_right (Classical.choose hh) n)
  rw [h4] at h3
  exact (Option.some.inj h3).symm
theorem whileS_some {c : Env → R Bool} {b : Env → SR} {e : Env} (h : whileS c b e ≠ .bad) : ∃ n, whileF c b n e = some (whileS c b e) := by
  by_cases hh : ∃ n, ∃ r, whileF c b n e = some r
  · obtain ⟨n, r, q⟩ := hh
    exact ⟨n, by rw [whileS_eq q]; exact q⟩
  · unfold whileS at h
    rw [dif_neg hh] at h
    exact absurd rfl h
theorem SS.while {tc : TT} {f : Env → R Bool} (hx : leK kx ks = true) (hc : ST K W C ks tc f) (hb : SS K W C ks t g ks ks kx kr) : SS K W C ks (tWhile tc t) (whileS f g) ks kl kx kr := fun H0 Zc env σ H Z Fs D s q => by
  let P : Env → Prop := fun e => ∀ σ' H' Z' Fs', SI K H0 Zc ks e σ' H' Z' Fs' → Ev Z H Z' H' → D.nx σ' H'
  let Pr : Pu.D → Prop := fun d => ∀ v H' Z' F, Ext Zc Z' H0 H' → Fr Z' H0 F → Vl K H' Z' kr F d v → D.rt v H'
  let Px : Nat → Env → Prop := fun c e => ∀ σ' H' Z' Fs', SI K H0 Zc kx e σ' H' Z' Fs' → W (C c) none σ' H'
  have nbad : whileS f g env ≠ .bad := fun z => by rw [z] at q; exact q.elim
  obtain ⟨n, hn⟩ := whileS_some nbad
  have nb : ∀ (n : Nat) (e : Env) (r : SR), whileF f g n e = some r → So r P Pr (fun e => ∀ σ' H' Z' Fs', SI K H0 Zc kl e σ' H' Z' Fs' → Ev Z H Z' H' → D.bk σ' H') (fun e => ∀ σ' H' Z' Fs', SI K H0 Zc kl e σ' H' Z' Fs' → Ev Z H Z' H' → D.ct σ' H') Px → So r P Pr (fun _ => False) (fun _ => False) Px := by
    intro n
    induction n with
    | zero => intro e r h; cases h
    | succ n ih =>
      intro e r h q
      unfold whileF at h
      cases hcv : f e with
      | ex x => rw [hcv] at h; cases h; exact q
      | bad => rw [hcv] at h; cases h; exact q
      | ok v =>
        rw [hcv] at h
        cases v with
        | false => cases h; exact q
        | true =>
          cases hbv : g e with
          | nx e' => rw [hbv] at h; exact ih e' r h q
          | ct e' => rw [hbv] at h; exact ih e' r h q
          | bk e' => rw [hbv] at h; cases h; exact q
          | rt d => rw [hbv] at h; cases h; exact q
          | ex x e' => rw [hbv] at h; cases h; exact q
          | bad => rw [hbv] at h; cases h; exact q
  refine ⟨fun m σ H' => ∃ env' Z' Fs', SI K H0 Zc ks env' σ H' Z' Fs' ∧ Ev Z H Z' H' ∧ ∃ r, whileF f g m env' = some r ∧ So r P Pr (fun _ => False) (fun _ => False) Px, ⟨n, env, Z, Fs, s, Ev.refl, _, hn, nb n env _ hn q⟩, ?_⟩
  rintro m σ1 H1 ⟨env1, Z1, Fs1, s1, e1, r, hr, q1⟩
  cases m with
  | zero => cases hr
  | succ m =>
    unfold whileF at hr
    refine hc H0 Zc env1 σ1 H1 Z1 Fs1 _ s1 ?_
    cases hcv : f env1 with
    | ex x =>
      rw [hcv] at hr
      cases hr
      intro H2 Z2 x2
      obtain ⟨Z3, Fs3, s3, e3, _⟩ := (s1.go x2).weak hx
      exact q1 _ _ _ _ s3
    | bad => rw [hcv] at hr; cases hr; exact q1.elim
    | ok v =>
      rw [hcv] at hr
      intro H2 Z2 x2
      cases v with
      | false =>
        cases hr
        rw [if_neg Bool.false_ne_true]
        exact q1 σ1 H2 Z2 Fs1 (s1.go x2) (e1.trans x2.ev)
      | true =>
        rw [if_pos rfl]
        refine ⟨fun σ' H' => ∃ env' Z' Fs', SI K H0 Zc ks env' σ' H' Z' Fs' ∧ Ev Z H Z' H' ∧ ∃ r, whileF f g m env' = some r ∧ So r P Pr (fun _ => False) (fun _ => False) Px, fun σ' H' w => ⟨m, Nat.lt_succ_self _, w⟩, ?_⟩
        refine hb H0 Zc env1 σ1 H2 Z2 Fs1 _ (s1.go x2) ?_
        have ev := e1.trans x2.ev
        cases hbv : g env1 with
        | nx e' => rw [hbv] at hr; exact fun σ' H' Z' Fs' s' e'' => ⟨e', Z', Fs', s', ev.trans e'', r, hr, q1⟩
        | ct e' => rw [hbv] at hr; exact fun σ' H' Z' Fs' s' e'' => ⟨e', Z', Fs', s', ev.trans e'', r, hr, q1⟩
        | bk e' => rw [hbv] at hr; cases hr; exact fun σ' H' Z' Fs' s' e'' => q1 σ' H' Z' Fs' s' (ev.trans e'')
        | rt d => rw [hbv] at hr; cases hr; exact q1
        | ex x e' => rw [hbv] at hr; cases hr; exact q1
        | bad => rw [hbv] at hr; cases hr; exact q1.elim

/-! ### tests -/
def asB (d : D) : R Bool := match d with
  | .bl b => .ok b
  | _ => .bad
theorem Vl.bl {K : PySem.W.Frag} {H : Hp} {Z : Zs} {k : Nat} {F : List Addr} {b : Bool} {v : V} (h : Vl K H Z k F (.bl b) v) : v = .bl b := by
  match k, h with
  | 0, h => exact h.2
  | 1, h => exact h.2
  | 2, h => exact h.2
  | n + 3, h => exact h.1
theorem ST.val {te : TE} {f : Env → R D} (h : SE K W C ks te f k) : ST K W C ks (tB te) (fun e => f e >>= asB) := fun H0 Zc env σ H Z Fs Q s q => by
  refine h H0 Zc env σ H Z Fs _ s (q.bind.mono (fun d q v H1 Z1 F x fr vl => ?_) fun c q => q)
  cases d with
  | bl b => exact ⟨b, vl.bl, q H1 Z1 x⟩
  | _ => exact q.elim
theorem ST.not {tt : TT} {f : Env → R Bool} (h : ST K W C ks tt f) : ST K W C ks (tNot tt) (fun e => f e >>= fun b => .ok (!b)) := fun H0 Zc env σ H Z Fs Q s q =>
  h H0 Zc env σ H Z Fs _ s (q.bind.mono (fun b q H1 Z1 x => q H1 Z1 x) fun c q => q)
theorem ST.and {t1 t2 : TT} {f1 f2 : Env → R Bool} (h1 : ST K W C ks t1 f1) (h2 : ST K W C ks t2 f2) : ST K W C ks (tAnd t1 t2) (fun e => f1 e >>= fun b => if b = true then f2 e else .ok false) := fun H0 Zc env σ H Z Fs Q s q => by
  refine h1 H0 Zc env σ H Z Fs _ s (q.bind.mono (fun b q H1 Z1 x => ?_) fun c q => q)
  cases b with
  | true =>
    rw [if_pos rfl] at q ⊢
    exact h2 H0 Zc env σ H1 Z1 Fs Q (s.go x) (q.mono (fun b q H2 Z2 x2 => q H2 Z2 (x.trans x2)) fun c q H2 Z2 x2 => q H2 Z2 (x.trans x2))
  | false =>
    rw [if_neg Bool.false_ne_true] at q ⊢
    exact q H1 Z1 x
theorem ST.or {t1 t2 : TT} {f1 f2 : Env → R Bool} (h1 : ST K W C ks t1 f1) (h2 : ST K W C ks t2 f2) : ST K W C ks (tOr t1 t2) (fun e => f1 e >>= fun b => if b = true then .ok true else f2 e) := fun H0 Zc env σ H Z Fs Q s q => by
  refine h1 H0 Zc env σ H Z Fs _ s (q.bind.mono (fun b q H1 Z1 x => ?_) fun c q => q)
  cases b with
  | true =>
    rw [if_pos rfl] at q ⊢
    exact q H1 Z1 x
  | false =>
    rw [if_neg Bool.false_ne_true] at q ⊢
    exact h2 H0 Zc env σ H1 Z1 Fs Q (s.go x) (q.mono (fun b q H2 Z2 x2 => q H2 Z2 (x.trans x2)) fun c q H2 Z2 x2 => q H2 Z2 (x.trans x2))
theorem bl3 {K : PySem.W.Frag} {H : Hp} {Z : Zs} {b : Bool} {k : Nat} : Vl K H Z k [] (.bl b) (.bl b) := by
  match k with
  | 0 => exact ⟨rfl, rfl⟩
  | 1 => exact ⟨rfl, rfl⟩
  | 2 => exact ⟨rfl, rfl⟩
  | n + 3 => exact ⟨rfl, rfl⟩
theorem SE.notV {te : TE} {f : Env → R D} (h : SE K W C ks te f k) : SE K W C ks (tNotV te) (fun e => f e >>= asB >>= fun b => .ok (.bl (!b))) 3 := fun H0 Zc env σ H Z Fs Q s q => by
  refine h H0 Zc env σ H Z Fs _ s (q.bind.bind.mono (fun d q v H1 Z1 F x fr vl => ?_) fun c q => q)
  cases d with
  | bl b => exact ⟨b, vl.bl, q _ H1 Z1 [] x Fr.nil bl3⟩
  | _ => exact q.elim
theorem SE.andV {ta tb : TE} {f1 f2 : Env → R D} {k2 : Nat} (h1 : SE K W C ks ta f1 k) (h2 : SE K W C ks tb f2 k2) : SE K W C ks (tAndV ta tb) (fun e => f1 e >>= asB >>= fun b => if b = true then f2 e else .ok (.bl false)) k2 := fun H0 Zc env σ H Z Fs Q s q => by
  refine h1 H0 Zc env σ H Z Fs _ s (q.bind.bind.mono (fun d q v H1 Z1 F x fr vl => ?_) fun c q => q)
  cases d with
  | bl b =>
    refine ⟨b, vl.bl, ?_⟩
    cases b with
    | true =>
      rw [if_pos rfl]
      exact h2 H0 Zc env σ H1 Z1 Fs Q (s.go x) (Ro.mono (show Ro (f2 env) _ _ from q) (fun d q v H2 Z2 F2 x2 fr2 vl2 => q v H2 Z2 F2 (x.trans x2) ⟨fr2.nd, fun a m => ⟨x.same.free (fr2.nw a m).1, (fr2.nw a m).2⟩⟩ vl2) fun c q H2 Z2 x2 => q H2 Z2 (x.trans x2))
    | false =>
      rw [if_neg Bool.false_ne_true]
      exact q _ H1 Z1 [] x Fr.nil bl3
  | _ => exact q.elim
theorem SE.orV {ta tb : TE} {f1 f2 : Env → R D} {k2 : Nat} (h1 : SE K W C ks ta f1 k) (h2 : SE K W C ks tb f2 k2) : SE K W C ks (tOrV ta tb) (fun e => f1 e >>= asB >>= fun b => if b = true then .ok (.bl true) else f2 e) k2 := fun H0 Zc env σ H Z Fs Q s q => by
  refine h1 H0 Zc env σ H Z Fs _ s (q.bind.bind.mono (fun d q v H1 Z1 F x fr vl => ?_) fun c q => q)
  cases d with
  | bl b =>
    refine ⟨b, vl.bl, ?_⟩
    cases b with
    | false =>
      rw [if_neg Bool.false_ne_true]
      exact h2 H0 Zc env σ H1 Z1 Fs Q (s.go x) (Ro.mono (show Ro (f2 env) _ _ from q) (fun d q v H2 Z2 F2 x2 fr2 vl2 => q v H2 Z2 F2 (x.trans x2) ⟨fr2.nd, fun a m => ⟨x.same.free (fr2.nw a m).1, (fr2.nw a m).2⟩⟩ vl2) fun c q H2 Z2 x2 => q H2 Z2 (x.trans x2))
    | true =>
      rw [if_pos rfl]
      exact q _ H1 Z1 [] x Fr.nil bl3
  | _ => exact q.elim
/-- a if t else b -/
def minV (a b : Nat) : Nat := if a = b then a else if a = 0 ∨ b = 0 then 0 else 1
theorem SE.to1 {te : TE} {f : Env → R D} (h : SE K W C ks te f k) (hk : k ≠ 0) : SE K W C ks te f 1 := by
  have := h.less
  unfold lessK at this
  rw [if_neg hk] at this
  exact this
theorem SE.minL {te : TE} {f : Env → R D} {k2 : Nat} (h : SE K W C ks te f k) : SE K W C ks te f (minV k k2) := by
  unfold minV
  split
  · exact h
  · split
    · exact h.read
    · exact h.to1 (by omega)
theorem SE.minR {te : TE} {f : Env → R D} {k2 : Nat} (h : SE K W C ks te f k2) : SE K W C ks te f (minV k k2) := by
  unfold minV
  split
  · rename_i e; rw [e]; exact h
  · split
    · exact h.read
    · exact h.to1 (by omega)
theorem SE.ifE {tc : TT} {ta tb : TE} {c : Env → R Bool} {f1 f2 : Env → R D} {k2 : Nat} (hc : ST K W C ks tc c) (h1 : SE K W C ks ta f1 k) (h2 : SE K W C ks tb f2 k2) :
    SE K W C ks (tIf tc ta tb) (fun e => c e >>= fun b => if b = true then f1 e else f2 e) (minV k k2) := fun H0 Zc env σ H Z Fs Q s q => by
  refine hc H0 Zc env σ H Z Fs _ s (q.bind.mono (fun b q H1 Z1 x => ?_) fun c q => q)
  cases b with
  | true =>
    rw [if_pos rfl] at q ⊢
    exact h1.minL H0 Zc env σ H1 Z1 Fs Q (s.go x) (q.mono (fun d q v H2 Z2 F2 x2 fr2 vl2 => q v H2 Z2 F2 (x.trans x2) ⟨fr2.nd, fun a m => ⟨x.same.free (fr2.nw a m).1, (fr2.nw a m).2⟩⟩ vl2) fun c q H2 Z2 x2 => q H2 Z2 (x.trans x2))
  | false =>
    rw [if_neg Bool.false_ne_true] at q ⊢
    exact h2.minR H0 Zc env σ H1 Z1 Fs Q (s.go x) (q.mono (fun d q v H2 Z2 F2 x2 fr2 vl2 => q v H2 Z2 F2 (x.trans x2) ⟨fr2.nd, fun a m => ⟨x.same.free (fr2.nw a m).1, (fr2.nw a m).2⟩⟩ vl2) fun c q H2 Z2 x2 => q H2 Z2 (x.trans x2))
end
end Pu

/-! PuE: comprehensions; what one owns is changed. -/
namespace Pu
open PySem PySem.Spec PyProof.Rows L2
section
variable {K : PySem.W.Frag} {H0 : Hp} {Zc : Zs} {ks : List Nat} {env : Env} {σ : St} {H : Hp} {Z : Zs} {Fs : Nat → List Addr}
/-- a slot is forgotten -/
theorem SI.unset (s : SI K H0 Zc ks env σ H Z Fs) (i : Nat) : SI K H0 Zc ks (env.set i none) (σ.set i none) H Z Fs where
  len := by rw [List.length_set, List.length_set]; exact s.len
  slot := fun j d e => by
    rw [List.getElem?_set] at e
    by_cases ej : i = j
    · rw [if_pos ej] at e
      split at e <;> cases e
    · rw [if_neg ej] at e
      obtain ⟨v, h1, h2⟩ := s.slot j d e
      exact ⟨v, by rw [List.getElem?_set, if_neg ej]; exact h1, h2⟩
  disj := s.disj
  nd := s.nd
  own := s.own
  ext := s.ext
def wipeE (e : Env) : List Nat → Env
  | [] => e
  | v :: vs => (wipeE e vs).set v none
theorem SI.wipe (s : SI K H0 Zc ks env σ H Z Fs) : ∀ vs : List Nat, SI K H0 Zc ks (wipeE env vs) (L2.wipe σ vs) H Z Fs
  | [] => s
  | v :: vs => (SI.wipe s vs).unset v
theorem wipe_get (σ : St) : ∀ (vs : List Nat) (j : Nat), (L2.wipe σ vs)[j]? = if j ∈ vs ∧ j < σ.length then some none else σ[j]?
  | [], j => by rw [if_neg (by simp)]; rfl
  | v :: vs, j => by
    show ((L2.wipe σ vs).set v none)[j]? = _
    rw [List.getElem?_set, wipe_get σ vs j, wipe_length]
    by_cases e : v = j
    · subst e
      by_cases l : v < σ.length
      · rw [if_pos rfl, if_pos l, if_pos ⟨List.mem_cons_self, l⟩]
      · rw [if_pos rfl, if_neg l, if_neg (fun z => l z.2), List.getElem?_eq_none (by omega)]
    · rw [if_neg e]
      by_cases m : j ∈ vs ∧ j < σ.length
      · rw [if_pos m, if_pos ⟨List.mem_cons_of_mem _ m.1, m.2⟩]
      · rw [if_neg m, if_neg fun z => ?_]
        rcases List.mem_cons.mp z.1 with q | q
        · exact e q.symm
        · exact m ⟨q, z.2⟩
theorem wipe_only {is vs : List Nat} {σ σ' : St} (o : Only is (L2.wipe σ vs) σ') (h : ∀ i ∈ is, i ∈ vs) : L2.wipe σ' vs = L2.wipe σ vs := by
  have l : σ'.length = σ.length := o.len.trans (wipe_length σ vs)
  apply List.ext_getElem?
  intro j
  rw [wipe_get, wipe_get, l]
  by_cases m : j ∈ vs ∧ j < σ.length
  · rw [if_pos m, if_pos m]
  · rw [if_neg m, if_neg m]
    by_cases mj : j ∈ vs
    · have lj : σ.length ≤ j := Nat.le_of_not_lt fun z => m ⟨mj, z⟩
      rw [List.getElem?_eq_none lj, List.getElem?_eq_none (by omega)]
    · rw [o.at' j fun z => mj (h j z), wipe_get, if_neg m]
/-- not a tuple -/
def NoTup (H : Hp) (a : Addr) : Prop := ∀ xs, H a ≠ some (.tup xs)
theorem noTup_lst {l : List V} {a : Addr} (h : H a = some (.lst l)) : NoTup H a := fun xs z => by rw [h] at z; cases z
theorem noFrz_lst {l : List V} {a : Addr} (h : H a = some (.lst l)) : ∀ o xs, H a ≠ some (.frz o (.lst xs)) := fun o xs z => by rw [h] at z; cases z
/-- neither a tuple nor the script -/
structure Soft (H : Hp) (a : Addr) : Prop where
  nt : NoTup H a
  nf : ∀ o xs, H a ≠ some (.frz o (.lst xs))
theorem soft_lst {l : List V} {a : Addr} (h : H a = some (.lst l)) : Soft H a := ⟨noTup_lst h, noFrz_lst h⟩
/-- a place that is not shared is written -/
theorem kp_write {a : Addr} {o : HO} (hz : ¬ Z a) (nt : Soft H a) : Kp Z H (upd H a o) := by
  refine ⟨fun b u r q => ?_, fun b xs r q => ?_, fun b xs r => ?_, fun b ob xs r => ?_⟩
  · have ne : b ≠ a := fun z => hz (by rw [← z]; exact q)
    rcases r with r | ⟨ob, r⟩
    · exact .inl (by rw [upd_ne ne]; exact r)
    · exact .inr ⟨ob, by rw [upd_ne ne]; exact r⟩
  · have ne : b ≠ a := fun z => hz (by rw [← z]; exact q)
    rw [upd_ne ne]; exact r
  · have ne : b ≠ a := fun z => by subst z; exact nt.nt xs r
    rw [upd_ne ne]; exact r
  · have ne : b ≠ a := fun z => by subst z; exact nt.nf _ _ r
    rw [upd_ne ne]; exact r
theorem Vl.write {k : Nat} {F : List Addr} {d : D} {v : V} {a : Addr} {o : HO} (hk : 1 ≤ k) (h : Vl K H Z k F d v) (hz : ¬ Z a) (nt : Soft H a) (hf : a ∉ F) : Vl K (upd H a o) Z k F d v :=
  h.keep (kp_write hz nt) (.inr hk) (fun _ z => z) fun b m => upd_ne fun z => hf (by rw [← z]; exact m)
theorem dom_upd {a : Addr} {o : HO} : ∀ b, H b ≠ none → upd H a o b ≠ none := fun b h => by
  by_cases e : b = a
  · rw [e, upd_same]; simp
  · rw [upd_ne e]; exact h
/-- a place of nobody's is written -/
theorem SI.write (s : SI K H0 Zc ks env σ H Z Fs) {a : Addr} {o : HO} (hz : ¬ Z a) (hf : ∀ i, a ∉ Fs i) (h0 : H0 a = none) (nt : Soft H a) : SI K H0 Zc ks env σ (upd H a o) Z Fs where
  len := s.len
  slot := fun i d e => by
    obtain ⟨v, h1, h2, h3⟩ := s.slot i d e
    exact ⟨v, h1, h2, h3.write h2 hz nt (hf i)⟩
  disj := s.disj
  nd := s.nd
  own := fun i b m => ⟨(s.own i b m).1, (s.own i b m).2.1, dom_upd b (s.own i b m).2.2⟩
  ext := ⟨fun b x e => by rw [upd_ne (ne_of_none e h0)]; exact s.ext.same b x e, s.ext.zm, s.ext.zn, fun b z => dom_upd b (s.ext.zd b z)⟩
/-- .. of the i-th slot's own -/
theorem SI.writeOwn (s : SI K H0 Zc ks env σ H Z Fs) {i k : Nat} {a : Addr} {o : HO} {d : D} {v : V} {F : List Addr} (hi : i < ks.length) (hk : 1 ≤ k) (ha : a ∈ Fs i) (nt : Soft H a) (hv : σ[i]? = some (some v))
    (vl : Vl K (upd H a o) Z k F d v) (nd : F.Nodup) (nw : ∀ b ∈ F, ¬ Z b ∧ H0 b = none ∧ ∀ j, j ≠ i → b ∉ Fs j) : SI K H0 Zc (ks.set i k) (env.set i (some d)) σ (upd H a o) Z (setF Fs i F) := by
  obtain ⟨o1, o2, o3⟩ := s.own i a ha
  have base : SI K H0 Zc ks (env.set i none) (σ.set i none) (upd H a o) Z (setF Fs i []) := by
    have s1 := s.unset i
    have s2 : SI K H0 Zc ks (env.set i none) (σ.set i none) H Z (setF Fs i []) := by
      refine ⟨s1.len, fun j e hj => ?_, fun x y b m1 m2 => ?_, fun j => ?_, fun j b m => ?_, s1.ext⟩
      · have hj2 := hj
        rw [List.getElem?_set] at hj2
        have ne : ¬ i = j := fun z => by
          rw [if_pos z] at hj2
          split at hj2 <;> cases hj2
        unfold setF
        rw [if_neg fun z => ne z.symm]
        exact s1.slot j e hj
      · unfold setF at m1 m2
        split at m1
        · simp at m1
        · split at m2
          · simp at m2
          · exact s.disj x y b m1 m2
      · unfold setF
        split
        · exact List.nodup_nil
        · exact s.nd j
      · unfold setF at m
        split at m
        · simp at m
        · exact s.own j b m
    refine s2.write o1 (fun j m => ?_) o2 nt
    unfold setF at m
    split at m
    · simp at m
    · rename_i h
      exact h (s.disj j i a m ha)
  have s3 := base.set (d := d) (v := v) hi hk vl nd fun b m => ⟨(nw b m).1, (nw b m).2.1, fun j h => by
    unfold setF
    rw [if_neg h]
    exact (nw b m).2.2 j h⟩
  rw [List.set_set, List.set_set] at s3
  have es : σ.set i (some v) = σ := by
    apply List.ext_getElem?
    intro j
    rw [List.getElem?_set]
    by_cases e : i = j
    · subst e
      rw [if_pos rfl, hv, if_pos]
      exact (List.getElem?_eq_some_iff.mp hv).1
    · rw [if_neg e]
  rw [es] at s3
  have ef : setF (setF Fs i []) i F = setF Fs i F := by
    funext j
    unfold setF
    split <;> rfl
  rw [ef] at s3
  exact s3
end

/-! ### comprehensions -/
def nox {α : Type} (r : R α) : R α := match r with
  | .ok a => .ok a
  | .ex _ => .bad
  | .bad => .bad
theorem Ro.nox {α : Type} {r : R α} {P : α → Prop} {E E' : Nat → Prop} (h : Ro (Pu.nox r) P E) : Ro r P E' := by
  cases r with
  | ok a => exact h
  | ex c => exact h.elim
  | bad => exact h
def compR (h : D → Env → Option Env) (c : Env → R Bool) (f : Env → R D) (e0 : Env) : List D → R (List D)
  | [] => .ok []
  | d :: r => match h d e0 with
    | none => .bad
    | some e => Pu.nox (c e) >>= fun b => if b = true then Pu.nox (f e) >>= fun y => compR h c f e0 r >>= fun ys => .ok (y :: ys) else compR h c f e0 r
theorem compR_nox {h : D → Env → Option Env} {c : Env → R Bool} {f : Env → R D} {e0 : Env} : ∀ {ds : List D} {P : List D → Prop} {E E' : Nat → Prop}, Ro (compR h c f e0 ds) P E → Ro (compR h c f e0 ds) P E'
  | [], _, _, _, q => q
  | d :: ds, P, E, E', q => by
    unfold compR at q ⊢
    cases hd : h d e0 with
    | none => rw [hd] at q; exact q
    | some e =>
      rw [hd] at q
      simp only at q ⊢
      cases hc : c e with
      | ex x => rw [hc] at q; exact q
      | bad => rw [hc] at q; exact q
      | ok b =>
        rw [hc] at q
        cases b with
        | false => exact compR_nox (ds := ds) q
        | true =>
          cases hf : f e with
          | ex x => rw [hf] at q; exact q
          | bad => rw [hf] at q; exact q
          | ok y =>
            rw [hf] at q
            have q : Ro (compR h c f e0 ds >>= fun ys => R.ok (y :: ys)) P E := q
            show Ro (compR h c f e0 ds >>= fun ys => R.ok (y :: ys)) P E'
            have q2 := compR_nox (ds := ds) (E' := E') q.bind
            cases hr : compR h c f e0 ds with
            | ok ys => rw [hr] at q2; exact q2
            | ex x => rw [hr] at q2; exact q2
            | bad => rw [hr] at q2; exact q2
/-- as Stream, where nothing that stood is touched -/
structure Stream2 (K : PySem.W.Frag) (J : It) (ds : List D) (Z : Zs) (H : Hp) : Prop where
  go : ∀ i Z2 H2, i < ds.length → Ext Z Z2 H H2 → J.go i H2
  yld : ∀ (i : Nat) d Z2 H2 x H3, ds[i]? = some d → Ext Z Z2 H H2 → (∀ a, Z2 a → H2 a ≠ none) → J.yld i H2 x H3 → ∃ Z3, Ext Z2 Z3 H2 H3 ∧ Is K H3 Z3 d x
  stop : ∀ Z2 H2, Ext Z Z2 H H2 → J.stop ds.length H2
theorem Stream.two {K : PySem.W.Frag} {J : It} {ds : List D} {Z : Zs} {H : Hp} (s : Stream K J ds Z H) : Stream2 K J ds Z H :=
  ⟨fun i Z2 H2 h x => s.go i Z2 H2 h x.ev, fun i d Z2 H2 y H3 hd x zd hy => s.yld i d Z2 H2 y H3 hd x.ev zd hy, fun Z2 H2 x => s.stop Z2 H2 x.ev⟩
def SW2 (K : PySem.W.Frag) (W : WX) (C : Cs) (ks : List Nat) (wi : TI) (f : Env → R (List D)) : Prop := ∀ (H0 : Hp) (Zc : Zs) (env : Env) (σ : St) (H : Hp) (Z : Zs) (Fs : Nat → List Addr) (Q : It → Hp → Prop), SI K H0 Zc ks env σ H Z Fs →
  Ro (f env) (fun ds => ∀ J H' Z', Ext Z Z' H H' → Stream2 K J ds Z' H' → Q J H') (fun c => ∀ H' Z', Ext Z Z' H H' → W (C c) none σ H') → wi σ H Q
theorem SW.two {K : PySem.W.Frag} {W : WX} {C : Cs} {ks : List Nat} {wi : TI} {f : Env → R (List D)} (h : SW K W C ks wi f) : SW2 K W C ks wi f := fun H0 Zc env σ H Z Fs Q s q =>
  h H0 Zc env σ H Z Fs Q s (q.mono (fun ds q J H' Z' x st => q J H' Z' x st.two) fun c q => q)
abbrev W0 : WX := fun _ _ _ _ => False
def compLine (ds : List D) : R (List D) := if ds.length ≤ sizeLine then .ok ds else .bad
def compK (k : Nat) : Nat := if k = 3 then 3 else 1
section
variable {K : PySem.W.Frag} {W : WX} {C : Cs} {ks kn kl kx k1 is : List Nat} {kr k : Nat}
theorem SE.comp {wi : TI} {fi : Env → R (List D)} {gt : TG} {h : D → Env → Option Env} {tt : TT} {c : Env → R Bool} {te : TE} {f : Env → R D} {vs : List Nat} (hw : SW2 K W C ks wi fi) (hg : SG K ks gt h 1 k1 is) (hi : ∀ i ∈ is, i ∈ vs)
    (hc : ST K W0 C k1 tt c) (he : SE K W0 C k1 te f k) (hk : k = 1 ∨ k = 3) :
    SE K W C ks (tLc wi gt tt te vs) (fun e => fi e >>= compLine >>= fun ds => compR h c f (wipeE e vs) ds >>= fun ys => .ok (.lst ys)) (lstK k) := fun H0 Zc env σ H Z Fs Q s q => by
  refine hw H0 Zc env σ H Z Fs _ s (q.bind.bind.mono (fun ds q J H1 Z1 x st D hD => ?_) fun c q => q)
  unfold compLine at q
  by_cases hl : ds.length ≤ sizeLine
  rotate_left
  · rw [if_neg hl] at q; exact q.elim
  rw [if_pos hl] at q
  have q : Ro (compR h c f (wipeE env vs) ds >>= fun ys => R.ok (.lst ys)) (fun d => ∀ v H' Z' F, Ext Z Z' H H' → Fr Z' H F → Vl K H' Z' (lstK k) F d v → Q v H') (fun c => ∀ H' Z', Ext Z Z' H H' → W (C c) none σ H') := q
  have q := compR_nox (E' := fun _ => True) q.bind
  have s1 := s.go x
  have npD : ¬ Z1 D := fun z => x.zd D z hD
  refine ⟨fun i m H2 => m = ds.length - i ∧ i ≤ ds.length ∧ ∃ Z2 acc ys F, SI K H0 Zc ks env σ H2 Z2 Fs ∧ Ext Z1 Z2 H1 H2 ∧ H2 D = some (.lst acc) ∧ ¬ Z2 D ∧ D ∉ F ∧ acc.length ≤ i ∧ Fr Z2 H1 F ∧ VlL K H2 Z2 k F ys acc ∧
      Ro (compR h c f (wipeE env vs) (ds.drop i)) (fun rest => ∀ v H' Z' F, Ext Z Z' H H' → Fr Z' H F → Vl K H' Z' (lstK k) F (.lst (ys ++ rest)) v → Q v H') (fun _ => True), ⟨ds.length, by simp, Nat.zero_le _, Z1, [], [], [], ?_, ?_⟩, ?_⟩
  · exact s1.go (Ext.new x.zd hD)
  · refine ⟨Ext.new x.zd hD, upd_same, npD, by simp, Nat.le_refl _, Fr.nil, ?_, ?_⟩
    · rcases hk with rfl | rfl
      · exact ⟨rfl, rfl⟩
      · exact ⟨rfl, rfl⟩
    · rw [List.drop_zero]
      exact q.mono (fun ys q => q) fun c q => q
  · rintro i m H2 ⟨rfl, hi2, Z2, acc, ys, F, s2, x2, eD, nD, nF, la, fr, vl, q2⟩
    by_cases hlt : i < ds.length
    · have hd : ds[i]? = some ds[i] := List.getElem?_eq_getElem hlt
      refine .inr ⟨st.go i Z2 H2 hlt x2, fun H' => i + 1 ≤ ds.length ∧ ∃ Z2 acc ys F, SI K H0 Zc ks env σ H' Z2 Fs ∧ Ext Z1 Z2 H1 H' ∧ H' D = some (.lst acc) ∧ ¬ Z2 D ∧ D ∉ F ∧ acc.length ≤ i + 1 ∧ Fr Z2 H1 F ∧ VlL K H' Z2 k F ys acc ∧
        Ro (compR h c f (wipeE env vs) (ds.drop (i + 1))) (fun rest => ∀ v H' Z' F, Ext Z Z' H H' → Fr Z' H F → Vl K H' Z' (lstK k) F (.lst (ys ++ rest)) v → Q v H') (fun _ => True),
        fun H' w => ⟨ds.length - (i + 1), by omega, rfl, w.1, w.2⟩, fun y H3 hy => ?_⟩
      obtain ⟨Z3, x3, is3⟩ := st.yld i _ Z2 H2 y H3 hd x2 s2.ext.zd hy
      rw [List.drop_eq_getElem_cons hlt] at q2
      unfold compR at q2
      have s3 := s2.go x3
      refine hg H0 Zc (wipeE env vs) (L2.wipe σ vs) H3 Z3 Fs ds[i] y [] _ (s3.wipe vs) ⟨rfl, is3⟩ List.nodup_nil (fun _ m => by simp at m) ?_
      cases ho : h ds[i] (wipeE env vs) with
      | none => rw [ho] at q2; exact q2.elim
      | some e5 =>
        rw [ho] at q2
        simp only at q2
        refine ⟨e5, rfl, fun σ5 Fs5 o5 s5 => ⟨wipe_only o5 hi, ?_⟩⟩
        refine hc H0 Zc e5 σ5 H3 Z3 Fs5 _ s5 (q2.bind.nox.mono (fun b q2 H4 Z4 x4 => ?_) fun c q => q)
        have x34 := x3.trans x4
        have s4 := s2.go x34
        have eD4 : H4 D = some (.lst acc) := x34.same _ _ eD
        have nD4 : ¬ Z4 D := fun z => (x34.zn D z).elim nD (fun z => by rw [eD] at z; cases z)
        have fr4 : Fr Z4 H1 F := fr.ext vl.dom x34
        have vl4 : VlL K H4 Z4 k F ys acc := by
          rcases hk with rfl | rfl
          · exact ⟨vl.1, vl.2.keep x34.keep x34.zm⟩
          · exact OwL.keep x34.keep vl fun a m => same_at x34.same (OwL.dom vl a m)
        cases b with
        | false =>
          rw [if_neg Bool.false_ne_true] at q2 ⊢
          exact ⟨hlt, Z4, acc, ys, F, s4, x2.trans x34, eD4, nD4, nF, by omega, fr4, vl4, q2⟩
        | true =>
          rw [if_pos rfl] at q2 ⊢
          refine he H0 Zc e5 σ5 H4 Z4 Fs5 _ (s5.go x4) (q2.bind.nox.mono (fun d q2 v H5 Z5 F5 x5 fr5 vl5 => ?_) fun c q => q)
          have x45 := x34.trans x5
          have s6 := s2.go x45
          have eD5 : H5 D = some (.lst acc) := x45.same _ _ eD
          have nD5 : ¬ Z5 D := fun z => (x45.zn D z).elim nD (fun z => by rw [eD] at z; cases z)
          have nt : Soft H5 D := soft_lst eD5
          have nF5 : D ∉ F5 := fun m => by
            have := (fr5.nw D m).1
            rw [eD4] at this; cases this
          refine ⟨acc, eD5, by omega, hlt, Z5, acc ++ [v], ys ++ [d], F ++ F5, s6.write nD5 (fun j m => ?_) (s.ext.same.free (x.same.free hD)) nt, ?_, upd_same, nD5, ?_, ?_, ?_, ?_, ?_⟩
          · have := (s1.own j D m).2.2
            exact this hD
          · have x15 := x2.trans x45
            exact ⟨fun b u e => by rw [upd_ne (ne_of_none e hD)]; exact x15.same b u e, x15.zm, x15.zn, fun b z => dom_upd b (x15.zd b z)⟩
          · intro m
            rcases List.mem_append.mp m with m | m
            · exact nF m
            · exact nF5 m
          · rw [List.length_append, List.length_singleton]; omega
          · refine ⟨List.nodup_append.mpr ⟨fr.nd, fr5.nd, fun a m b m' e => ?_⟩, fun a m => ?_⟩
            · subst e
              exact vl4.dom a m (fr5.nw a m').1
            · rcases List.mem_append.mp m with m | m
              · exact (fr.ext vl.dom x45).nw a m
              · exact ⟨(x2.trans x34).same.free (fr5.nw a m).1, (fr5.nw a m).2⟩
          · rcases hk with rfl | rfl
            · obtain ⟨rfl, r5⟩ := vl5
              obtain ⟨rfl, r4⟩ := vl4
              exact ⟨rfl, ((r4.keep x5.keep x5.zm).keep (kp_write nD5 nt) (fun _ z => z)).app (IsL.one (r5.keep (kp_write nD5 nt) (fun _ z => z)))⟩
            · have r5 : Ow K H5 d v F5 := vl5
              have r4 : OwL K H4 ys acc F := vl4
              have r4' : OwL K H5 ys acc F := OwL.keep x5.keep r4 fun a m => same_at x5.same (OwL.dom r4 a m)
              have wr : Kp (fun _ => False) H5 (upd H5 D (.lst (acc ++ [v]))) := kp_write (fun z => z) nt
              exact OwL.app (OwL.keep wr r4' fun a m => upd_ne fun z => nF (by rw [← z]; exact m)) (OwL.one (Ow.keep wr r5 fun a m => upd_ne fun z => nF5 (by rw [← z]; exact m)))
          · refine q2.bind.mono (fun rest q v H' Z' F x fr vl => ?_) fun _ _ => True.intro
            refine q v H' Z' F x fr ?_
            rw [List.append_assoc] at vl
            exact vl
    · have e : i = ds.length := by omega
      subst e
      rw [List.drop_length] at q2
      refine .inl ⟨st.stop Z2 H2 x2, ?_⟩
      have q2 : ∀ v H' Z' F, Ext Z Z' H H' → Fr Z' H F → Vl K H' Z' (lstK k) F (.lst (ys ++ [])) v → Q v H' := q2
      rw [List.append_nil] at q2
      have xx := x.trans x2
      rcases hk with rfl | rfl
      · refine q2 _ H2 Z2 [D] xx ⟨List.nodup_cons.mpr ⟨by simp, List.nodup_nil⟩, fun a m => ?_⟩ ⟨D, acc, rfl, rfl, eD, vl.2⟩
        rw [List.mem_singleton.mp m]
        exact ⟨x.same.free hD, nD⟩
      · refine q2 _ H2 Z2 (D :: F) xx ⟨List.nodup_cons.mpr ⟨nF, fr.nd⟩, fun a m => ?_⟩ ⟨D, acc, F, rfl, rfl, eD, vl⟩
        rcases List.mem_cons.mp m with rfl | m
        · exact ⟨x.same.free hD, nD⟩
        · exact ⟨x.same.free (fr.nw a m).1, (fr.nw a m).2⟩
end
end Pu

/-! PuF: what is done by values. -/
namespace Pu
open PySem PySem.Spec PyProof.Rows L2

/-! ### data that can be compared -/
mutual
def toPy : D → PyData
  | .non => .none
  | .bl b => .bool b
  | .int i => .int i
  | .str s => .str (ofT s)
  | .tup ds => .tuple (toPyL ds)
  | .lst ds => .list (toPyL ds)
  | .dic _ _ _ => .dict []
  | .exc _ => .dict []
  | .scr ns => .dict []
def toPyL : List D → List PyData
  | [] => []
  | d :: ds => toPy d :: toPyL ds
end
theorem toPyL_map : ∀ ds : List D, toPyL ds = ds.map toPy
  | [] => rfl
  | d :: ds => by rw [toPyL, toPyL_map ds, List.map_cons]
mutual
/-- lists, tuples and what is flat, to a depth -/
def pyOk : Nat → D → Bool
  | _, .non => true
  | _, .bl _ => true
  | _, .int _ => true
  | _, .str _ => true
  | n + 1, .tup ds => pyOkL n ds
  | n + 1, .lst ds => pyOkL n ds
  | 0, .tup _ => false
  | 0, .lst _ => false
  | _, .dic _ _ _ => false
  | _, .exc _ => false
  | _, .scr _ => false
def pyOkL : Nat → List D → Bool
  | _, [] => true
  | n, d :: ds => pyOk n d && pyOkL n ds
end
section
variable {K : PySem.W.Frag} {H : Hp} {Z : Zs}
mutual
theorem Is.dp : ∀ {n : Nat} {d : D} {v : V}, Is K H Z d v → pyOk n d = true → Dp K H v (toPy d)
  | _, .non, _, h, _ => by have h : _ = V.non := h; subst h; exact .non
  | _, .bl b, _, h, _ => by have h : _ = V.bl b := h; subst h; exact .bl b
  | _, .int i, _, h, _ => by have h : _ = V.int i := h; subst h; exact .int i
  | _, .str s, _, h, _ => by obtain ⟨h, _⟩ := h; subst h; exact .str _
  | n + 1, .tup ds, _, ⟨a, xs, e, s, r⟩, f => by subst e; exact .tup (.inl (.inl s)) (IsL.dp (n := n) r (by simpa [pyOk] using f))
  | n + 1, .lst ds, _, ⟨a, xs, e, s, r⟩, f => by subst e; exact .lst (.inl (.inl s.2)) (IsL.dp (n := n) r (by simpa [pyOk] using f))
  | 0, .tup _, _, _, f => by simp [pyOk] at f
  | 0, .lst _, _, _, f => by simp [pyOk] at f
  | _, .dic _ _ _, _, _, f => by simp [pyOk] at f
  | _, .exc _, _, h, _ => h.elim
  | _, .scr _, _, _, f => by simp [pyOk] at f
theorem IsL.dp : ∀ {n : Nat} {ds : List D} {vs : List V}, IsL K H Z ds vs → pyOkL n ds = true → DpAll K H vs (toPyL ds)
  | _, [], _, h, _ => by have h : _ = [] := h; subst h; exact .nil
  | n, d :: ds, _, ⟨x, r, e, h, t⟩, f => by
    subst e
    have f' : pyOk n d = true ∧ pyOkL n ds = true := by simpa [pyOkL] using f
    exact .cons (Is.dp h f'.1) (IsL.dp t f'.2)
end
end
mutual
theorem canLay_of {K : PySem.W.Frag} {H : Hp} {Z : Zs} : ∀ {n : Nat} {d : D} {v : V}, Is K H Z d v → pyOk n d = true → (toPy d).canLay0 = true
  | _, .non, _, _, _ => by simp [toPy, PyData.canLay0]
  | _, .bl b, _, _, _ => by simp [toPy, PyData.canLay0]
  | _, .int i, _, _, _ => by simp [toPy, PyData.canLay0]
  | _, .str s, _, h, _ => by
    simp only [toPy, PyData.canLay0, PyData.strOk, ofT, List.all_toArray, List.all_eq_true, decide_eq_true_eq]
    exact h.2
  | n + 1, .tup ds, _, ⟨a, xs, e, s, r⟩, f => by simp only [toPy, PyData.canLay0]; exact canLayL_of (n := n) r (by simpa [pyOk] using f)
  | n + 1, .lst ds, _, ⟨a, xs, e, s, r⟩, f => by simp only [toPy, PyData.canLay0]; exact canLayL_of (n := n) r (by simpa [pyOk] using f)
  | 0, .tup _, _, _, f => by simp [pyOk] at f
  | 0, .lst _, _, _, f => by simp [pyOk] at f
  | _, .dic _ _ _, _, _, f => by simp [pyOk] at f
  | _, .exc _, _, _, f => by simp [pyOk] at f
  | _, .scr _, _, _, f => by simp [pyOk] at f
theorem canLayL_of {K : PySem.W.Frag} {H : Hp} {Z : Zs} : ∀ {n : Nat} {ds : List D} {vs : List V}, IsL K H Z ds vs → pyOkL n ds = true → PyData.canLayAll0 (toPyL ds) = true
  | _, [], _, _, _ => by simp [toPyL, PyData.canLayAll0]
  | n, d :: ds, _, ⟨x, r, e, h, t⟩, f => by
    have f' : pyOk n d = true ∧ pyOkL n ds = true := by simpa [pyOkL] using f
    simp only [toPyL, PyData.canLayAll0, Bool.and_eq_true]
    exact ⟨canLay_of h f'.1, canLayL_of t f'.2⟩
end
mutual
theorem depth_of : ∀ {n : Nat} {d : D}, pyOk n d = true → (toPy d).depth ≤ n
  | _, .non, _ => by simp [toPy, PyData.depth]
  | _, .bl b, _ => by simp [toPy, PyData.depth]
  | _, .int i, _ => by simp [toPy, PyData.depth]
  | _, .str s, _ => by simp [toPy, PyData.depth]
  | n + 1, .tup ds, f => by simp only [toPy, PyData.depth]; exact Nat.succ_le_succ (depthL_of (n := n) (by simpa [pyOk] using f))
  | n + 1, .lst ds, f => by simp only [toPy, PyData.depth]; exact Nat.succ_le_succ (depthL_of (n := n) (by simpa [pyOk] using f))
  | 0, .tup _, f => by simp [pyOk] at f
  | 0, .lst _, f => by simp [pyOk] at f
  | _, .dic _ _ _, f => by simp [pyOk] at f
  | _, .exc _, f => by simp [pyOk] at f
  | _, .scr _, f => by simp [pyOk] at f
theorem depthL_of : ∀ {n : Nat} {ds : List D}, pyOkL n ds = true → PyData.depthAll (toPyL ds) ≤ n
  | _, [], _ => by simp [toPyL, PyData.depthAll]
  | n, d :: ds, f => by
    have f' : pyOk n d = true ∧ pyOkL n ds = true := by simpa [pyOkL] using f
    simp only [toPyL, PyData.depthAll]
    exact Nat.max_le.mpr ⟨depth_of f'.1, depthL_of f'.2⟩
end
theorem shaped_of {K : PySem.W.Frag} {H : Hp} {Z : Zs} {d : D} {v : V} (i : Is K H Z d v) (h : pyOk 30 d = true) : SeqAt.shaped (toPy d) = true := by
  unfold SeqAt.shaped
  rw [canLay_of i h, Bool.true_and]
  exact decide_eq_true (Nat.le_trans (depth_of h) (by decide))
theorem pyOkL_iff {n : Nat} : ∀ {ds : List D}, pyOkL n ds = true ↔ ∀ d ∈ ds, pyOk n d = true
  | [] => by simp [pyOkL]
  | d :: ds => by simp [pyOkL, pyOkL_iff]

/-! ### operators by values -/
section
variable {X : Cx}
def rLtD (K : PySem.W.Frag) : R2 := fun x y H Q => ∃ d e, Dp K H x d ∧ Dp K H y e ∧ PySem.W.alike d e = true ∧ d ≠ .none ∧ d.depth ≤ 60 ∧ Q (.bl (PySem.W.dataLt d e)) H
def rGtD (K : PySem.W.Frag) : R2 := fun x y H Q => ∃ d e, Dp K H x d ∧ Dp K H y e ∧ PySem.W.alike d e = true ∧ d ≠ .none ∧ d.depth ≤ 60 ∧ Q (.bl (PySem.W.dataLt e d)) H
def rLeD (K : PySem.W.Frag) : R2 := fun x y H Q => ∃ d e, Dp K H x d ∧ Dp K H y e ∧ PySem.W.alike d e = true ∧ d ≠ .none ∧ d.depth ≤ 60 ∧ Q (.bl (!PySem.W.dataLt e d)) H
def rGeD (K : PySem.W.Frag) : R2 := fun x y H Q => ∃ d e, Dp K H x d ∧ Dp K H y e ∧ PySem.W.alike d e = true ∧ d ≠ .none ∧ d.depth ≤ 60 ∧ Q (.bl (!PySem.W.dataLt d e)) H
theorem min60 {A : Around} {a b : Nat} (hu : A.units + 64 < cLine) (h : a ≤ 60) : A.units + min a b < cLine := by
  have : min a b ≤ a := Nat.min_le_left _ _
  omega
theorem op_ltD (hu : X.A.units + 64 < cLine) : OpR X (compareOp .Lt) (rLtD X.K) := by
  intro pins s σ H x y v u Q I rx ry h
  obtain ⟨d, e, hd, he, al, nn, dp, q⟩ := h
  obtain ⟨as, r1⟩ := Dp.reads I d x v hd rx
  obtain ⟨bs, r2⟩ := Dp.reads I e y u he ry
  exact PySem.W.lt_data r1 r2 al nn (min60 hu dp) ⟨.bl _, H, I, rfl, q⟩
theorem op_gtD (hu : X.A.units + 64 < cLine) : OpR X (compareOp .Gt) (rGtD X.K) := by
  intro pins s σ H x y v u Q I rx ry h
  obtain ⟨d, e, hd, he, al, nn, dp, q⟩ := h
  obtain ⟨as, r1⟩ := Dp.reads I d x v hd rx
  obtain ⟨bs, r2⟩ := Dp.reads I e y u he ry
  exact PySem.W.gt_data r1 r2 al nn (min60 hu dp) ⟨.bl _, H, I, rfl, q⟩
theorem op_leD (hu : X.A.units + 64 < cLine) : OpR X (compareOp .LtE) (rLeD X.K) := by
  intro pins s σ H x y v u Q I rx ry h
  obtain ⟨d, e, hd, he, al, nn, dp, q⟩ := h
  obtain ⟨as, r1⟩ := Dp.reads I d x v hd rx
  obtain ⟨bs, r2⟩ := Dp.reads I e y u he ry
  exact PySem.W.le_data r1 r2 al nn (min60 hu dp) ⟨.bl _, H, I, rfl, q⟩
theorem op_geD (hu : X.A.units + 64 < cLine) : OpR X (compareOp .GtE) (rGeD X.K) := by
  intro pins s σ H x y v u Q I rx ry h
  obtain ⟨d, e, hd, he, al, nn, dp, q⟩ := h
  obtain ⟨as, r1⟩ := Dp.reads I d x v hd rx
  obtain ⟨bs, r2⟩ := Dp.reads I e y u he ry
  exact PySem.W.ge_data r1 r2 al nn (min60 hu dp) ⟨.bl _, H, I, rfl, q⟩
/-- sorted(xs) of data, any number -/
def leD (a b : D) : Bool := PySem.W.dataLe false toPy a b
def rSortedD (K : PySem.W.Frag) : List V → Hp → VK → Prop := fun vs H Q => ∃ (a : Addr) (ps : List (V × D)), vs = [V.ref a] ∧ SqL K H a (ps.map (·.1)) ∧ (∀ p ∈ ps, Dp K H p.1 (toPy p.2)) ∧ PySem.W.AllAlike (ps.map fun p => toPy p.2) ∧ PySem.W.Sortable (ps.map fun p => toPy p.2) ∧
  (∀ p ∈ ps, (toPy p.2).depth ≤ 60) ∧ ∀ p, H p = none → Q (.ref p) (upd H p (.lst ((ps.mergeSort fun a b => leD a.2 b.2).map (·.1))))
theorem each_of_vals : ∀ {ps : List (V × D)} {us : List Value}, Vals (ps.map (·.1)) us → PySem.W.EachIs (fun u (p : V × D) => RelV p.1 u) us ps
  | [], _, h => by
    have h : Vals [] _ := h
    cases h
    exact .nil
  | p :: ps, _, h => by
    have h : Vals (p.1 :: ps.map (·.1)) _ := h
    cases h with
    | cons r t => exact .cons r (each_of_vals t)
theorem vals_of_each : ∀ {ps : List (V × D)} {us : List Value}, PySem.W.EachIs (fun u (p : V × D) => RelV p.1 u) us ps → Vals (ps.map (·.1)) us
  | _, _, .nil => .nil
  | _, _, .cons r t => .cons r (vals_of_each t)
theorem each_reads {pins : List (Addr × Obj)} {σ : St} {H : Hp} {s : Shared} (I : Inv X pins σ H s) : ∀ {ps : List (V × D)} {us : List Value}, Vals (ps.map (·.1)) us → (∀ p ∈ ps, Dp X.K H p.1 (toPy p.2)) →
    PySem.W.EachIs (fun u (p : V × D) => ∃ as, Reads s.heap u (toPy p.2) as) us ps
  | [], _, h, _ => by
    have h : Vals [] _ := h
    cases h
    exact .nil
  | p :: ps, _, h, f => by
    have h : Vals (p.1 :: ps.map (·.1)) _ := h
    cases h with
    | cons r t => exact .cons (Dp.reads I _ _ _ (f p List.mem_cons_self) r) (each_reads I t fun q m => f q (List.mem_cons_of_mem _ m))
theorem cr_sortedDt (hu : X.A.units + 64 < cLine) : CallR X (.builtin "sorted") (rSortedD X.K) := by
  intro pins s σ H vs us Q I r h
  obtain ⟨a, ps, rfl, hs, hd, hal, hso, hdp, q⟩ := h
  obtain ⟨its, rv, hl, hz⟩ := I.list hs
  rw [Vals.ref1 r]
  refine PySem.W.sorted_data (enc := fun p : V × D => toPy p.2) (vs := its) hl.isList (each_of_vals rv) (each_reads I rv hd) hal hso (by rw [List.length_map] at hz; exact hz) (fun b hb => ?_) fun out ho he => ?_
  · have := hdp b hb
    omega
  · obtain ⟨ep, he'⟩ := PyProof.Rows.sortedAll_at s.heap its out.toArray
    have e2 : (ps.mergeSort (PySem.W.dataLe false fun p : V × D => toPy p.2)) = ps.mergeSort fun a b => leD a.2 b.2 := rfl
    rw [e2] at he
    refine ⟨.ref _, upd H (s.heap.objs.size + 1) (.lst ((ps.mergeSort fun a b => leD a.2 b.2).map (·.1))), I.laid (t' := s.toks) (fun _ _ => PyProof.Rows.sortedAll_old) (Nat.le_succ _) ⟨?_, out, ep, vals_of_each he, by simpa using he'⟩, rfl, q _ (I.hok.fresh (Nat.le_succ _))⟩
    rw [List.length_map, List.length_mergeSort]
    rw [List.length_map] at hz
    exact hz
/-- * of great ints -/
def CMulB (i j : Int) : Prop := ((-(2 ^ 64) < i ∧ i < 2 ^ 64) ∨ (-(2 ^ 64) < j ∧ j < 2 ^ 64)) ∨ i.natAbs.log2 + j.natAbs.log2 < 134217000
instance (i j : Int) : Decidable (CMulB i j) := by unfold CMulB; infer_instance
theorem CMulB.ok {i j : Int} (h : CMulB i j) : IntMulOk i j := by
  rcases h with h | h3
  · exact CMul.ok h
  · have b : ∀ x : Int, Builtin.Int.intBits x ≤ x.natAbs.log2 + 1 := fun x => by
      unfold Builtin.Int.intBits
      split <;> omega
    have h1 := b i
    have h2 := b j
    have e : bitsLine = 134217728 := by decide
    unfold IntMulOk
    intro z
    rw [Bool.and_eq_true] at z
    have z2 := z.2
    unfold Builtin.Int.intTooBig at z2
    have z3 := of_decide_eq_true z2
    rw [e] at z3
    omega
theorem op_mulB : OpR X (binaryOp .Mult) (rI CMulB fun i j => .int (i * j)) := opI fun _ _ _ _ _ _ _ hc q => mul_int q hc.ok
end
end Pu

/-! PuG: operators on plain data. -/
namespace Pu
open PySem PySem.Spec PyProof.Rows L2

/-! ### data alike -/
mutual
def D.beq : D → D → Bool
  | .non, .non => true
  | .bl a, .bl b => a == b
  | .int a, .int b => a == b
  | .str a, .str b => a == b
  | .tup a, .tup b => D.beqL a b
  | .lst a, .lst b => D.beqL a b
  | .dic r a b, .dic s c d => r == s && D.beqL a c && D.beqL b d
  | .exc a, .exc b => a == b
  | .scr a, .scr b => a == b
  | _, _ => false
def D.beqL : List D → List D → Bool
  | [], [] => true
  | a :: as, b :: bs => D.beq a b && D.beqL as bs
  | _, _ => false
end
mutual
theorem D.beq_refl : ∀ a : D, D.beq a a = true
  | .non => rfl
  | .bl _ => by simp [D.beq]
  | .int _ => by simp [D.beq]
  | .str _ => by simp [D.beq]
  | .tup a => by simp [D.beq, D.beqL_refl a]
  | .lst a => by simp [D.beq, D.beqL_refl a]
  | .dic r a b => by simp [D.beq, D.beqL_refl a, D.beqL_refl b]
  | .exc _ => by simp [D.beq]
  | .scr _ => by simp [D.beq]
theorem D.beqL_refl : ∀ a : List D, D.beqL a a = true
  | [] => rfl
  | a :: as => by simp [D.beqL, D.beq_refl a, D.beqL_refl as]
end
mutual
theorem D.of_beq : ∀ a b : D, D.beq a b = true → a = b
  | .non, b, h => by cases b <;> simp [D.beq] at h ⊢
  | .bl x, b, h => by cases b <;> simp [D.beq] at h ⊢ <;> exact h
  | .int x, b, h => by cases b <;> simp [D.beq] at h ⊢ <;> exact h
  | .str x, b, h => by cases b <;> simp [D.beq] at h ⊢ <;> exact h
  | .tup x, b, h => by cases b <;> simp [D.beq] at h ⊢ <;> exact D.of_beqL _ _ h
  | .lst x, b, h => by cases b <;> simp [D.beq] at h ⊢ <;> exact D.of_beqL _ _ h
  | .dic r x y, b, h => by
    cases b <;> simp [D.beq] at h ⊢
    exact ⟨h.1.1, D.of_beqL _ _ h.1.2, D.of_beqL _ _ h.2⟩
  | .exc x, b, h => by cases b <;> simp [D.beq] at h ⊢ <;> exact h
  | .scr x, b, h => by cases b <;> simp [D.beq] at h ⊢ <;> exact h
theorem D.of_beqL : ∀ a b : List D, D.beqL a b = true → a = b
  | [], b, h => by cases b <;> simp [D.beqL] at h ⊢
  | x :: xs, b, h => by
    cases b with
    | nil => simp [D.beqL] at h
    | cons y ys =>
      have h' : D.beq x y = true ∧ D.beqL xs ys = true := by simpa [D.beqL] using h
      rw [D.of_beq _ _ h'.1, D.of_beqL _ _ h'.2]
end
instance : DecidableEq D := fun a b => if h : D.beq a b = true then .isTrue (D.of_beq a b h) else .isFalse fun e => h (by rw [e]; exact D.beq_refl b)

/-! ### what is done by values -/
section
variable (K : PySem.W.Frag) (W : WX) (C : Cs)
/-- by one value, by two -/
def P1 (r : V → Hp → VK → Prop) (f : D → R D) (k : Nat) : Prop := ∀ (H : Hp) (Z : Zs) (d : D) (v : V) (Q : VK), (∀ a, Z a → H a ≠ none) → Is K H Z d v →
  Ro (f d) (fun d => ∀ v H' Z' F, Ext Z Z' H H' → Fr Z' H F → Vl K H' Z' k F d v → Q v H') (fun _ => False) → r v H Q
def P2 (r : R2) (f : D → D → R D) (k : Nat) : Prop := ∀ (H : Hp) (Z : Zs) (d e : D) (x y : V) (Q : VK), (∀ a, Z a → H a ≠ none) → Is K H Z d x → Is K H Z e y →
  Ro (f d e) (fun d => ∀ v H' Z' F, Ext Z Z' H H' → Fr Z' H F → Vl K H' Z' k F d v → Q v H') (fun _ => False) → r x y H Q
end
/-- it raises nothing -/
def Nox {α : Type} (r : R α) : Prop := ∀ c, r ≠ .ex c
theorem Ro.nx {α : Type} {r : R α} {P : α → Prop} {E E' : Nat → Prop} (n : Nox r) (h : Ro r P E) : Ro r P E' := by
  cases r with
  | ok a => exact h
  | ex c => exact absurd rfl (n c)
  | bad => exact h
theorem SE.congr {K : PySem.W.Frag} {W : WX} {C : Cs} {ks : List Nat} {t : TE} {f f' : Env → R D} {k : Nat} (h : SE K W C ks t f k) (e : ∀ env, f env = f' env) : SE K W C ks t f' k := by
  have : f = f' := funext e
  rw [← this]; exact h
section
variable {K : PySem.W.Frag} {W : WX} {C : Cs} {ks : List Nat}
theorem SE.op1 {r : V → Hp → VK → Prop} {g : D → R D} {ta : TE} {f : Env → R D} {k kr : Nat} (hp : P1 K r g kr) (n : ∀ d, Nox (g d)) (h : SE K W C ks ta f k) :
    SE K W C ks (fun σ H Q => ta σ H fun x H1 => r x H1 Q) (fun e => f e >>= g) (outK kr k) := by
  have h1 := SA.cons h SA.nil
  have h2 := h1.prim (r := fun vs H Q => match vs with | [x] => r x H Q | _ => False) (g := fun ds => match ds with | [d] => g d | _ => .bad) (kr := kr) (fun σ => by
    intro H Z ds vs Q zd vl q
    match ds, vl with
    | [], _ => exact q.elim
    | [d], ⟨x, _, e, h1, e2⟩ =>
      have e2 : _ = [] := e2
      subst e e2
      exact hp H Z d x Q zd h1 (Ro.nx (n d) q)
    | _ :: _ :: _, _ => exact q.elim)
  have h3 := SE.congr (f' := fun e => f e >>= g) h2 (fun env => by cases f env <;> rfl)
  have ek : outK kr (minK k 3) = outK kr k := by
    unfold outK minK
    by_cases h0 : k = 0
    · subst h0; simp
    · by_cases h3 : k = 3
      · subst h3; simp
      · simp [h0, h3]
  rw [ek] at h3
  exact h3
theorem SE.op2 {r : R2} {g : D → D → R D} {ta tb : TE} {f1 f2 : Env → R D} {k1 k2 kr : Nat} (hp : P2 K r g kr) (n : ∀ d e, Nox (g d e)) (h1 : SE K W C ks ta f1 k1) (h2 : SE K W C ks tb f2 k2) :
    SE K W C ks (tOp r ta tb) (fun e => f1 e >>= fun a => f2 e >>= fun b => g a b) (outK kr (minK k1 k2)) := by
  have ha := SA.cons h1 (SA.cons h2 SA.nil)
  have hb := ha.prim (r := fun vs H Q => match vs with | [x, y] => r x y H Q | _ => False) (g := fun ds => match ds with | [d, e] => g d e | _ => .bad) (kr := kr) (fun σ => by
    intro H Z ds vs Q zd vl q
    match ds, vl with
    | [], _ => exact q.elim
    | [_], _ => exact q.elim
    | [d, e], ⟨x, _, e1, h1, y, _, e2, h2, e3⟩ =>
      have e3 : _ = [] := e3
      subst e1 e2 e3
      exact hp H Z d e x y Q zd h1 h2 (Ro.nx (n d e) q)
    | _ :: _ :: _ :: _, _ => exact q.elim)
  have hc := SE.congr (f' := fun e => f1 e >>= fun a => f2 e >>= fun b => g a b) hb (fun env => by cases f1 env <;> cases f2 env <;> rfl)
  have ek : outK kr (minK k1 (minK k2 3)) = outK kr (minK k1 k2) := by
    unfold outK minK
    by_cases a1 : k1 = 0
    · subst a1; simp
    · by_cases b1 : k2 = 0
      · subst b1; simp
      · by_cases a3 : k1 = 3 <;> by_cases b3 : k2 = 3 <;> simp [a1, b1, a3, b3]
  rw [ek] at hc
  exact hc
end

/-! ### ints, texts -/
section
variable {K : PySem.W.Frag} {H : Hp} {Z : Zs} {Q : VK}
theorem done (zd : ∀ a, Z a → H a ≠ none) {d : D} {v : V} (q : ∀ v H' Z' F, Ext Z Z' H H' → Fr Z' H F → Vl K H' Z' 3 F d v → Q v H') (o : Ow K H d v []) : Q v H := q v H Z [] (Ext.refl zd) Fr.nil o
theorem ow_int {i : Int} : Ow K H (.int i) (.int i) [] := ⟨rfl, rfl⟩
theorem ow_bl {b : Bool} : Ow K H (.bl b) (.bl b) [] := ⟨rfl, rfl⟩
end
def onI (f : Int → Int → R D) (a b : D) : R D := match a, b with
  | .int i, .int j => f i j
  | _, _ => .bad
def okI (i : Int) : R D := .ok (.int i)
def okB (b : Bool) : R D := .ok (.bl b)
def ifR (c : Bool) (r : R D) : R D := if c = true then r else .bad
theorem nox_ok {α : Type} {a : α} : Nox (R.ok a) := fun _ z => nomatch z
theorem nox_bad {α : Type} : Nox (R.bad : R α) := fun _ z => nomatch z
theorem nox_if {c : Bool} {r : R D} (h : Nox r) : Nox (ifR c r) := by
  unfold ifR
  split
  · exact h
  · exact nox_bad
theorem nox_onI {f : Int → Int → R D} (h : ∀ i j, Nox (f i j)) (a b : D) : Nox (onI f a b) := by
  unfold onI
  split
  · exact h _ _
  · exact nox_bad
theorem p2_int {K : PySem.W.Frag} {c : Int → Int → Prop} [∀ i j, Decidable (c i j)] {g : Int → Int → Int} : P2 K (rI c fun i j => .int (g i j)) (onI fun i j => ifR (decide (c i j)) (okI (g i j))) 3 := by
  intro H Z d e x y Q zd hx hy q
  cases d with
  | int i =>
    cases e with
    | int j =>
      have q : Ro (ifR (decide (c i j)) (okI (g i j))) _ _ := q
      unfold ifR at q
      by_cases hc : c i j
      · rw [if_pos (decide_eq_true hc)] at q
        exact ⟨i, j, hx, hy, hc, done zd q ow_int⟩
      · rw [if_neg (by rw [decide_eq_false hc]; exact Bool.false_ne_true)] at q
        exact q.elim
    | _ => exact q.elim
  | _ => exact q.elim
theorem p2_int0 {K : PySem.W.Frag} {g : Int → Int → Int} : P2 K (rI0 fun i j => .int (g i j)) (onI fun i j => okI (g i j)) 3 := by
  intro H Z d e x y Q zd hx hy q
  cases d with
  | int i =>
    cases e with
    | int j => exact ⟨i, j, hx, hy, done zd q ow_int⟩
    | _ => exact q.elim
  | _ => exact q.elim
instance (i j : Int) : Decidable (CDivW i j) := by unfold CDivW; infer_instance
instance (i j : Int) : Decidable (CPow i j) := by unfold CPow; infer_instance
def subI : D → D → R D := onI fun i j => okI (i - j)
def mulI : D → D → R D := onI fun i j => ifR (decide (CMulB i j)) (okI (i * j))
def divI : D → D → R D := onI fun i j => ifR (decide (CDivW i j)) (okI (i / j))
def modI : D → D → R D := onI fun i j => ifR (decide (0 < j)) (okI (i % j))
def powI : D → D → R D := onI fun i j => ifR (decide (CPow i j)) (okI (i ^ j.toNat))
def shlI : D → D → R D := onI fun i j => ifR (decide (CPow i j)) (okI (i * 2 ^ j.toNat))
def shrI : D → D → R D := onI fun i j => ifR (decide (0 ≤ j)) (okI (i / 2 ^ j.toNat))
def andI : D → D → R D := onI fun i j => okI (Builtin.bitAnd i j)
def orI : D → D → R D := onI fun i j => okI (Builtin.bitOr i j)
def xorI : D → D → R D := onI fun i j => okI (Builtin.bitXor i j)
def addS (a b : D) : R D := match a, b with
  | .int i, .int j => .ok (.int (i + j))
  | .str s, .str t => if s.length + t.length ≤ sizeLine then .ok (.str (s ++ t)) else .bad
  | _, _ => .bad
def rAddS : R2 := fun x y H Q => rI0 (fun i j => .int (i + j)) x y H Q ∨ ∃ i j : Str, x = .str i ∧ y = .str j ∧ i.length + j.length ≤ sizeLine ∧ Q (.str (i ++ j)) H
theorem ofT_app (s t : Txt) : ofT s ++ ofT t = ofT (s ++ t) := by
  show Str.mk (s.toArray ++ t.toArray) = Str.mk (s ++ t).toArray
  rw [List.append_toArray]
theorem p2_addS {K : PySem.W.Frag} : P2 K rAddS addS 3 := by
  intro H Z d e x y Q zd hx hy q
  cases d with
  | int i =>
    cases e with
    | int j => exact .inl ⟨i, j, hx, hy, done zd q ow_int⟩
    | _ => exact q.elim
  | str s =>
    cases e with
    | str t =>
      have q : Ro (if s.length + t.length ≤ sizeLine then R.ok (D.str (s ++ t)) else .bad) _ _ := q
      by_cases hl : s.length + t.length ≤ sizeLine
      · rw [if_pos hl] at q
        refine .inr ⟨ofT s, ofT t, hx.1, hy.1, by rw [ofT_len, ofT_len]; exact hl, ?_⟩
        rw [ofT_app]
        exact done zd q ⟨⟨rfl, rfl⟩, hx.2.app hy.2⟩
      · rw [if_neg hl] at q
        exact q.elim
    | _ => exact q.elim
  | _ => exact q.elim
theorem nox_addS (a b : D) : Nox (addS a b) := by
  unfold addS
  split
  · exact nox_ok
  · split
    · exact nox_ok
    · exact nox_bad
  · exact nox_bad

/-! ### comparisons -/
def cmpOk (a b : D) : Bool := pyOk 60 a && pyOk 60 b && PySem.W.alike (toPy a) (toPy b) && !decide (a = .non)
def ltR (a b : D) : R D := ifR (cmpOk a b) (okB (PySem.W.dataLt (toPy a) (toPy b)))
def gtR (a b : D) : R D := ifR (cmpOk a b) (okB (PySem.W.dataLt (toPy b) (toPy a)))
def leR (a b : D) : R D := ifR (cmpOk a b) (okB (!PySem.W.dataLt (toPy b) (toPy a)))
def geR (a b : D) : R D := ifR (cmpOk a b) (okB (!PySem.W.dataLt (toPy a) (toPy b)))
/-- ints first, other data then -/
def ltG (a b : D) : R D := match a, b with
  | .int i, .int j => okB (decide (i < j))
  | _, _ => ltR a b
def gtG (a b : D) : R D := match a, b with
  | .int i, .int j => okB (decide (j < i))
  | _, _ => gtR a b
def leG (a b : D) : R D := match a, b with
  | .int i, .int j => okB (decide (i ≤ j))
  | _, _ => leR a b
def geG (a b : D) : R D := match a, b with
  | .int i, .int j => okB (decide (j ≤ i))
  | _, _ => geR a b
theorem cmp_of {K : PySem.W.Frag} {H : Hp} {Z : Zs} {a b : D} {x y : V} (hx : Is K H Z a x) (hy : Is K H Z b y) (h : cmpOk a b = true) :
    Dp K H x (toPy a) ∧ Dp K H y (toPy b) ∧ PySem.W.alike (toPy a) (toPy b) = true ∧ toPy a ≠ .none ∧ (toPy a).depth ≤ 60 := by
  unfold cmpOk at h
  simp only [Bool.and_eq_true, Bool.not_eq_true', decide_eq_false_iff_not] at h
  obtain ⟨⟨⟨h1, h2⟩, h3⟩, h4⟩ := h
  refine ⟨hx.dp h1, hy.dp h2, h3, fun z => h4 ?_, depth_of h1⟩
  cases a <;> simp [toPy] at z ⊢
theorem cmp_post {K : PySem.W.Frag} {H : Hp} {Z : Zs} {Q : VK} {c : Bool} {b : Bool} (zd : ∀ a, Z a → H a ≠ none) (q : Ro (ifR c (okB b)) (fun d => ∀ v H' Z' F, Ext Z Z' H H' → Fr Z' H F → Vl K H' Z' 3 F d v → Q v H') (fun _ => False)) : c = true ∧ Q (.bl b) H := by
  unfold ifR at q
  by_cases hc : c = true
  · rw [if_pos hc] at q
    exact ⟨hc, done zd q ow_bl⟩
  · rw [if_neg hc] at q
    exact q.elim
def rLtG (K : PySem.W.Frag) : R2 := fun x y H Q => rI0 (fun i j => .bl (decide (i < j))) x y H Q ∨ rLtD K x y H Q
def rGtG (K : PySem.W.Frag) : R2 := fun x y H Q => rI0 (fun i j => .bl (decide (j < i))) x y H Q ∨ rGtD K x y H Q
def rLeG (K : PySem.W.Frag) : R2 := fun x y H Q => rI0 (fun i j => .bl (decide (i ≤ j))) x y H Q ∨ rLeD K x y H Q
def rGeG (K : PySem.W.Frag) : R2 := fun x y H Q => rI0 (fun i j => .bl (decide (j ≤ i))) x y H Q ∨ rGeD K x y H Q
theorem p2_lt {K : PySem.W.Frag} : P2 K (rLtG K) ltG 3 := by
  intro H Z d e x y Q zd hx hy q
  by_cases hi : ∃ i j, d = .int i ∧ e = .int j
  · obtain ⟨i, j, rfl, rfl⟩ := hi
    exact .inl ⟨i, j, hx, hy, done zd q ow_bl⟩
  · have eg : ltG d e = ltR d e := by
      unfold ltG
      split
      · rename_i i j; exact absurd ⟨i, j, rfl, rfl⟩ hi
      · rfl
    rw [eg] at q
    obtain ⟨hc, q⟩ := cmp_post zd q
    obtain ⟨h1, h2, h3, h4, h5⟩ := cmp_of hx hy hc
    exact .inr ⟨_, _, h1, h2, h3, h4, h5, q⟩
theorem p2_gt {K : PySem.W.Frag} : P2 K (rGtG K) gtG 3 := by
  intro H Z d e x y Q zd hx hy q
  by_cases hi : ∃ i j, d = .int i ∧ e = .int j
  · obtain ⟨i, j, rfl, rfl⟩ := hi
    exact .inl ⟨i, j, hx, hy, done zd q ow_bl⟩
  · have eg : gtG d e = gtR d e := by
      unfold gtG
      split
      · rename_i i j; exact absurd ⟨i, j, rfl, rfl⟩ hi
      · rfl
    rw [eg] at q
    obtain ⟨hc, q⟩ := cmp_post zd q
    obtain ⟨h1, h2, h3, h4, h5⟩ := cmp_of hx hy hc
    exact .inr ⟨_, _, h1, h2, h3, h4, h5, q⟩
theorem p2_le {K : PySem.W.Frag} : P2 K (rLeG K) leG 3 := by
  intro H Z d e x y Q zd hx hy q
  by_cases hi : ∃ i j, d = .int i ∧ e = .int j
  · obtain ⟨i, j, rfl, rfl⟩ := hi
    exact .inl ⟨i, j, hx, hy, done zd q ow_bl⟩
  · have eg : leG d e = leR d e := by
      unfold leG
      split
      · rename_i i j; exact absurd ⟨i, j, rfl, rfl⟩ hi
      · rfl
    rw [eg] at q
    obtain ⟨hc, q⟩ := cmp_post zd q
    obtain ⟨h1, h2, h3, h4, h5⟩ := cmp_of hx hy hc
    exact .inr ⟨_, _, h1, h2, h3, h4, h5, q⟩
theorem p2_ge {K : PySem.W.Frag} : P2 K (rGeG K) geG 3 := by
  intro H Z d e x y Q zd hx hy q
  by_cases hi : ∃ i j, d = .int i ∧ e = .int j
  · obtain ⟨i, j, rfl, rfl⟩ := hi
    exact .inl ⟨i, j, hx, hy, done zd q ow_bl⟩
  · have eg : geG d e = geR d e := by
      unfold geG
      split
      · rename_i i j; exact absurd ⟨i, j, rfl, rfl⟩ hi
      · rfl
    rw [eg] at q
    obtain ⟨hc, q⟩ := cmp_post zd q
    obtain ⟨h1, h2, h3, h4, h5⟩ := cmp_of hx hy hc
    exact .inr ⟨_, _, h1, h2, h3, h4, h5, q⟩
theorem nox_cmp (f : Int → Int → Bool) (g : D → D → R D) (hg : ∀ a b, Nox (g a b)) (a b : D) : Nox (match a, b with | .int i, .int j => okB (f i j) | _, _ => g a b) := by
  split
  · exact nox_ok
  · exact hg _ _
theorem nox_lt (a b : D) : Nox (ltG a b) := by unfold ltG; split; exact nox_ok; exact nox_if nox_ok
theorem nox_gt (a b : D) : Nox (gtG a b) := by unfold gtG; split; exact nox_ok; exact nox_if nox_ok
theorem nox_le (a b : D) : Nox (leG a b) := by unfold leG; split; exact nox_ok; exact nox_if nox_ok
theorem nox_ge (a b : D) : Nox (geG a b) := by unfold geG; split; exact nox_ok; exact nox_if nox_ok
/-- == -/
def eqPy (a b : D) : Bool := PyData.eqv (toPy a) (toPy b)
def eqG (a b : D) : R D := ifR (pyOk 30 a && pyOk 30 b) (okB (eqPy a b))
def neG (a b : D) : R D := ifR (pyOk 30 a && pyOk 30 b) (okB (!eqPy a b))
theorem p2_eq {K : PySem.W.Frag} : P2 K (rEqD K) eqG 3 := by
  intro H Z d e x y Q zd hx hy q
  obtain ⟨hc, q⟩ := cmp_post zd q
  rw [Bool.and_eq_true] at hc
  exact ⟨_, _, hx.dp hc.1, hy.dp hc.2, shaped_of hx hc.1, shaped_of hy hc.2, q⟩
theorem p2_ne {K : PySem.W.Frag} : P2 K (rNeD K) neG 3 := by
  intro H Z d e x y Q zd hx hy q
  obtain ⟨hc, q⟩ := cmp_post zd q
  rw [Bool.and_eq_true] at hc
  exact ⟨_, _, hx.dp hc.1, hy.dp hc.2, shaped_of hx hc.1, shaped_of hy hc.2, q⟩
theorem nox_eq (a b : D) : Nox (eqG a b) := nox_if nox_ok
theorem nox_ne (a b : D) : Nox (neG a b) := nox_if nox_ok
/-- is None -/
def rIsN : R2 := fun x y H Q => y = .non ∧ Q (.bl (decide (x = .non))) H
def rNotN : R2 := fun x y H Q => y = .non ∧ Q (.bl (!decide (x = .non))) H
def isNG (a b : D) : R D := if b = .non then okB (decide (a = .non)) else .bad
def notNG (a b : D) : R D := if b = .non then okB (!decide (a = .non)) else .bad
theorem is_non {K : PySem.W.Frag} {H : Hp} {Z : Zs} {a : D} {x : V} (h : Is K H Z a x) : decide (x = .non) = decide (a = .non) := by
  cases a with
  | non => have h : x = .non := h; rw [h]; simp
  | bl b => have h : x = .bl b := h; rw [h]; simp
  | int b => have h : x = .int b := h; rw [h]; simp
  | str b => rw [h.1]; simp
  | tup ds => obtain ⟨a, xs, e, _⟩ := h; rw [e]; simp
  | lst ds => obtain ⟨a, xs, e, _⟩ := h; rw [e]; simp
  | dic _ _ _ => obtain ⟨a, xs, u, e, _⟩ := h; rw [e]; simp
  | exc _ => exact h.elim
  | scr _ => obtain ⟨a, e, _⟩ := h; rw [e]; simp
theorem p2_isN {K : PySem.W.Frag} : P2 K rIsN isNG 3 := by
  intro H Z d e x y Q zd hx hy q
  unfold isNG at q
  by_cases he : e = .non
  · rw [if_pos he] at q
    subst he
    refine ⟨hy, ?_⟩
    rw [is_non hx]
    exact done zd q ow_bl
  · rw [if_neg he] at q
    exact q.elim
theorem p2_notN {K : PySem.W.Frag} : P2 K rNotN notNG 3 := by
  intro H Z d e x y Q zd hx hy q
  unfold notNG at q
  by_cases he : e = .non
  · rw [if_pos he] at q
    subst he
    refine ⟨hy, ?_⟩
    rw [is_non hx]
    exact done zd q ow_bl
  · rw [if_neg he] at q
    exact q.elim
theorem nox_isN (a b : D) : Nox (isNG a b) := by unfold isNG; split; exact nox_ok; exact nox_bad
theorem nox_notN (a b : D) : Nox (notNG a b) := by unfold notNG; split; exact nox_ok; exact nox_bad
/-- -a -/
def negG (a : D) : R D := match a with
  | .int i => okI (-i)
  | _ => .bad
theorem p1_neg {K : PySem.W.Frag} : P1 K (rU fun i => .int (-i)) negG 3 := by
  intro H Z d v Q zd hx q
  cases d with
  | int i => exact ⟨i, hx, done zd q ow_int⟩
  | _ => exact q.elim
theorem nox_neg (a : D) : Nox (negG a) := by unfold negG; split; exact nox_ok; exact nox_bad

/-! ### lists and tuples joined, repeated -/
section
variable {K : PySem.W.Frag} {H : Hp} {Z : Zs} {Q : VK}
/-- a new list of what is shared -/
theorem newL (zd : ∀ a, Z a → H a ≠ none) {ds : List D} {vs : List V} (h : IsL K H Z ds vs) (q : ∀ v H' Z' F, Ext Z Z' H H' → Fr Z' H F → Vl K H' Z' 2 F (.lst ds) v → Q v H') : ∀ p, H p = none → Q (.ref p) (upd H p (.lst vs)) := fun p hp => by
  obtain ⟨F', x', fr', vl'⟩ := newList (K := K) (Ext.refl zd) Fr.nil (show VlL K H Z 1 [] ds vs from ⟨rfl, h⟩) (.inr (.inl rfl)) hp
  exact q _ _ Z F' x' fr' vl'
theorem newT (zd : ∀ a, Z a → H a ≠ none) {ds : List D} {vs : List V} (h : IsL K H Z ds vs) (q : ∀ v H' Z' F, Ext Z Z' H H' → Fr Z' H F → Vl K H' Z' 2 F (.tup ds) v → Q v H') : ∀ p, H p = none → Q (.ref p) (upd H p (.tup vs)) := fun p hp => by
  have xn := Ext.new (o := .tup vs) zd hp
  exact q _ _ Z [] xn Fr.nil ⟨rfl, p, vs, rfl, upd_same, h.keep xn.keep xn.zm⟩
theorem oldT (zd : ∀ a, Z a → H a ≠ none) {ds : List D} {v : V} (h : Is K H Z (.tup ds) v) (q : ∀ v H' Z' F, Ext Z Z' H H' → Fr Z' H F → Vl K H' Z' 2 F (.tup ds) v → Q v H') : Q v H := q v H Z [] (Ext.refl zd) Fr.nil ⟨rfl, h⟩
end
def addL (a b : D) : R D := match a, b with
  | .lst s, .lst t => if s.length + t.length ≤ sizeLine then .ok (.lst (s ++ t)) else .bad
  | .tup s, .tup t => if s.length + t.length ≤ sizeLine then .ok (.tup (s ++ t)) else .bad
  | _, _ => .bad
def rAddL (K : PySem.W.Frag) : R2 := fun x y H Q => rCat x y H Q ∨ rCatA K x y H Q
theorem p2_addL {K : PySem.W.Frag} : P2 K (rAddL K) addL 2 := by
  intro H Z d e x y Q zd hx hy q
  cases d with
  | lst s =>
    cases e with
    | lst t =>
      obtain ⟨a, xs, ea, ha, ra⟩ := hx
      obtain ⟨b, ys, eb, hb, rb⟩ := hy
      have q : Ro (if s.length + t.length ≤ sizeLine then R.ok (D.lst (s ++ t)) else .bad) _ _ := q
      by_cases hl : s.length + t.length ≤ sizeLine
      · rw [if_pos hl] at q
        exact .inl ⟨a, b, xs, ys, ea, eb, ha.2, hb.2, by rw [ra.len, rb.len]; exact hl, newL zd (ra.app rb) q⟩
      · rw [if_neg hl] at q
        exact q.elim
    | _ => exact q.elim
  | tup s =>
    cases e with
    | tup t =>
      have hx' := hx
      have hy' := hy
      obtain ⟨a, xs, ea, ha, ra⟩ := hx
      obtain ⟨b, ys, eb, hb, rb⟩ := hy
      have q : Ro (if s.length + t.length ≤ sizeLine then R.ok (D.tup (s ++ t)) else .bad) _ _ := q
      by_cases hl : s.length + t.length ≤ sizeLine
      · rw [if_pos hl] at q
        refine .inr ⟨a, b, xs, ys, ea, eb, .inl (.inl ha), .inl (.inl hb), by rw [ra.len, rb.len]; exact hl, fun e => ?_, fun _ e => ?_, fun _ _ => newT zd (ra.app rb) q⟩
        · have es : s = [] := List.eq_nil_of_length_eq_zero (by rw [← ra.len, e]; rfl)
          subst es
          have := oldT zd hy' q
          rw [eb] at this
          exact this
        · have et : t = [] := List.eq_nil_of_length_eq_zero (by rw [← rb.len, e]; rfl)
          subst et
          have q : ∀ v H' Z' F, Ext Z Z' H H' → Fr Z' H F → Vl K H' Z' 2 F (.tup (s ++ [])) v → Q v H' := q
          rw [List.append_nil] at q
          have := oldT zd hx' q
          rw [ea] at this
          exact this
      · rw [if_neg hl] at q
        exact q.elim
    | _ => exact q.elim
  | _ => exact q.elim
theorem nox_addL (a b : D) : Nox (addL a b) := by
  unfold addL
  split
  · split
    · exact nox_ok
    · exact nox_bad
  · split
    · exact nox_ok
    · exact nox_bad
  · exact nox_bad
end Pu

/-! PuH: places, slices, built-ins on plain data. -/
namespace Pu
open PySem PySem.Spec PyProof.Rows L2

/-! ### dicts as two lists -/
def dget : List D → List D → D → Option D
  | k' :: ks, v :: vs, k => if k' = k then some v else dget ks vs k
  | _, _, _ => none
def dputK (ks : List D) (k : D) : List D := if k ∈ ks then ks else ks ++ [k]
def dputV : List D → List D → D → D → List D
  | k' :: ks, v' :: vs, k, v => if k' = k then v :: vs else v' :: dputV ks vs k v
  | _, _, _, v => [v]
section
variable {K : PySem.W.Frag} {H : Hp} {Z : Zs} {κ : Type} [DecidableEq κ] {f : κ → D}
theorem dget_val (inj : ∀ a b, f a = f b → a = b) : ∀ {kvs : List (κ × V)} {vs : List D} {k : κ}, IsL K H Z vs (kvs.map (fun p => p.2)) →
    (dget (kvs.map fun p => f p.1) vs (f k) = none ∧ valV kvs k = none) ∨ ∃ d x, dget (kvs.map fun p => f p.1) vs (f k) = some d ∧ valV kvs k = some x ∧ Is K H Z d x
  | [], vs, k, _ => .inl ⟨by cases vs <;> rfl, rfl⟩
  | p :: kvs, [], k, h => by
    have h : (p :: kvs).map (fun p => p.2) = [] := h
    simp at h
  | p :: kvs, d :: vs, k, ⟨x, r, e, h, t⟩ => by
    have e : p.2 :: kvs.map (fun p => p.2) = x :: r := e
    injection e with e1 e2
    subst e1 e2
    by_cases hk : p.1 = k
    · refine .inr ⟨d, p.2, ?_, valV_pos hk, h⟩
      show (if f p.1 = f k then some d else dget _ vs (f k)) = some d
      rw [if_pos (by rw [hk])]
    · have hf : ¬ f p.1 = f k := fun z => hk (inj _ _ z)
      have e3 : dget ((p :: kvs).map fun p => f p.1) (d :: vs) (f k) = dget (kvs.map fun p => f p.1) vs (f k) := by
        show (if f p.1 = f k then some d else dget _ vs (f k)) = _
        rw [if_neg hf]
      rw [e3, valV_neg hk]
      exact dget_val inj t
theorem mem_keys (inj : ∀ a b, f a = f b → a = b) {kvs : List (κ × V)} {k : κ} : f k ∈ kvs.map (fun p => f p.1) ↔ (valV kvs k).isSome = true := by
  rw [← valV_any, List.any_eq_true, List.mem_map]
  constructor
  · rintro ⟨p, m, e⟩; exact ⟨p, m, decide_eq_true (inj _ _ e)⟩
  · rintro ⟨p, m, e⟩; exact ⟨p, m, by rw [of_decide_eq_true e]⟩
theorem dput_keys (inj : ∀ a b, f a = f b → a = b) {kvs : List (κ × V)} {k : κ} {y : V} : (putK kvs k y).map (fun p => f p.1) = dputK (kvs.map fun p => f p.1) (f k) := by
  unfold putK dputK
  by_cases h : (kvs.any fun kv => decide (kv.1 = k)) = true
  · rw [if_pos h, if_pos ((mem_keys inj).mpr (by rw [← valV_any]; exact h)), List.map_map]
    refine List.map_congr_left fun p _ => ?_
    show f (if p.1 = k then (p.1, y) else p).1 = f p.1
    split <;> rfl
  · rw [if_neg h, if_neg (fun z => h (by rw [valV_any]; exact (mem_keys inj).mp z)), List.map_append]
    rfl
theorem putK_cons_pos {p : κ × V} {kvs : List (κ × V)} {k : κ} {y : V} (nd : ∀ q ∈ kvs, q.1 ≠ p.1) (h : p.1 = k) : putK (p :: kvs) k y = (p.1, y) :: kvs := by
  unfold putK
  have : ((p :: kvs).any fun kv => decide (kv.1 = k)) = true := by simp [h]
  rw [if_pos this, List.map_cons, if_pos h]
  congr 1
  have : kvs.map (fun kv => if kv.1 = k then (kv.1, y) else kv) = kvs.map id := List.map_congr_left fun q m => by
    rw [if_neg (by rw [← h]; exact nd q m)]; rfl
  rw [this, List.map_id]
theorem putK_cons_neg {p : κ × V} {kvs : List (κ × V)} {k : κ} {y : V} (h : ¬ p.1 = k) : putK (p :: kvs) k y = p :: putK kvs k y := by
  unfold putK
  have e : ((p :: kvs).any fun kv => decide (kv.1 = k)) = (kvs.any fun kv => decide (kv.1 = k)) := by simp [h]
  rw [e]
  split
  · rw [List.map_cons, if_neg h]
  · rfl
theorem dput_vals (inj : ∀ a b, f a = f b → a = b) : ∀ {kvs : List (κ × V)} {vs : List D} {k : κ} {d : D} {y : V}, (kvs.map (·.1)).Nodup → IsL K H Z vs (kvs.map (fun p => p.2)) → Is K H Z d y →
    IsL K H Z (dputV (kvs.map fun p => f p.1) vs (f k) d) ((putK kvs k y).map (fun p => p.2))
  | [], vs, k, d, y, _, h, hd => by
    cases vs <;> exact ⟨y, [], rfl, hd, rfl⟩
  | p :: kvs, [], k, d, y, _, h, _ => by
    have h : (p :: kvs).map (fun p => p.2) = [] := h
    simp at h
  | p :: kvs, e :: vs, k, d, y, nd, ⟨x, r, eq, h, t⟩, hd => by
    have eq : p.2 :: kvs.map (fun p => p.2) = x :: r := eq
    injection eq with e1 e2
    subst e1 e2
    rw [List.map_cons, List.nodup_cons] at nd
    by_cases hk : p.1 = k
    · rw [putK_cons_pos (fun q m z => nd.1 (by rw [← z]; exact List.mem_map_of_mem m)) hk]
      have e3 : dputV ((p :: kvs).map fun p => f p.1) (e :: vs) (f k) d = d :: vs := by
        show (if f p.1 = f k then d :: vs else _) = _
        rw [if_pos (by rw [hk])]
      rw [e3]
      exact ⟨y, _, rfl, hd, t⟩
    · have hf : ¬ f p.1 = f k := fun z => hk (inj _ _ z)
      rw [putK_cons_neg hk]
      have e3 : dputV ((p :: kvs).map fun p => f p.1) (e :: vs) (f k) d = e :: dputV (kvs.map fun p => f p.1) vs (f k) d := by
        show (if f p.1 = f k then d :: vs else _) = _
        rw [if_neg hf]
      rw [e3]
      exact ⟨p.2, _, rfl, h, dput_vals inj nd.2 t hd⟩
end
theorem kD_inj : ∀ a b : Key, kD a = kD b → a = b
  | .inl i, .inl j, h => by cases h; rfl
  | .inr x, .inr y, h => by
    injection h with h
    cases x; cases y
    simp at h
    rw [h]
  | .inl i, .inr y, h => by cases h
  | .inr x, .inl j, h => by cases h
theorem kDs_inj : ∀ a b : List Key, a.map kD = b.map kD → a = b
  | [], [], _ => rfl
  | x :: xs, y :: ys, h => by
    rw [List.map_cons, List.map_cons] at h
    injection h with h1 h2
    rw [kD_inj _ _ h1, kDs_inj _ _ h2]
  | [], _ :: _, h => by simp at h
  | _ :: _, [], h => by simp at h
theorem kT_inj (a b : List Key) (h : D.tup (a.map kD) = D.tup (b.map kD)) : a = b := by
  injection h with h
  exact kDs_inj _ _ h
/-- a datum as a key -/
def toKey : D → Option Key
  | .int i => some (.inl i)
  | .str s => some (.inr (ofT s))
  | _ => none
theorem toKey_kD {d : D} {k : Key} (h : toKey d = some k) : kD k = d := by
  cases d <;> simp [toKey] at h
  · subst h; rfl
  · subst h; simp [kD, ofT]
def toKeys : List D → Option (List Key)
  | [] => some []
  | d :: ds => match toKey d, toKeys ds with
    | some k, some ks => some (k :: ks)
    | _, _ => none
theorem toKeys_kD : ∀ {ds : List D} {ks : List Key}, toKeys ds = some ks → ks.map kD = ds
  | [], ks, h => by cases h; rfl
  | d :: ds, ks, h => by
    unfold toKeys at h
    cases h1 : toKey d with
    | none => rw [h1] at h; simp at h
    | some k =>
      cases h2 : toKeys ds with
      | none => rw [h1, h2] at h; simp at h
      | some r =>
        rw [h1, h2] at h
        cases h
        rw [List.map_cons, toKey_kD h1, toKeys_kD h2]
/-- a dict's kind takes such a key -/
def keyFor (r : Nat) (k : D) : Bool := match r, k with
  | 0, k => (toKey k).isSome
  | 1, .tup ds => (toKeys ds).isSome
  | _, _ => false
section
variable {K : PySem.W.Frag} {H : Hp} {Z : Zs}
theorem Is.kV {d : D} {v : V} {k : Key} (h : Is K H Z d v) (e : toKey d = some k) : v = kV k := by
  cases d <;> simp [toKey] at e
  · subst e; exact h
  · subst e; exact h.1
theorem IsL.kVs : ∀ {ds : List D} {vs : List V} {ks : List Key}, IsL K H Z ds vs → toKeys ds = some ks → vs = ks.map kV
  | [], vs, ks, h, e => by cases e; exact h
  | d :: ds, vs, ks, ⟨x, r, ev, h, t⟩, e => by
    unfold toKeys at e
    cases h1 : toKey d with
    | none => rw [h1] at e; simp at e
    | some k =>
      cases h2 : toKeys ds with
      | none => rw [h1, h2] at e; simp at e
      | some r2 =>
        rw [h1, h2] at e
        cases e
        rw [ev, h.kV h1, t.kVs h2, List.map_cons]
theorem Is.keyOk {d : D} {v : V} {k : Key} (h : Is K H Z d v) (e : toKey d = some k) : Pu.keyOk k := by
  cases d <;> simp [toKey] at e
  · subst e; exact True.intro
  · subst e; exact fun c m => h.2 c (by simpa [ofT] using m)
theorem IsL.keysOk : ∀ {ds : List D} {vs : List V} {ks : List Key}, IsL K H Z ds vs → toKeys ds = some ks → ∀ k ∈ ks, Pu.keyOk k
  | [], vs, ks, h, e => by cases e; simp
  | d :: ds, vs, ks, ⟨x, r, ev, h, t⟩, e => by
    unfold toKeys at e
    cases h1 : toKey d with
    | none => rw [h1] at e; simp at e
    | some k =>
      cases h2 : toKeys ds with
      | none => rw [h1, h2] at e; simp at e
      | some r2 =>
        rw [h1, h2] at e
        cases e
        intro k' m
        rcases List.mem_cons.mp m with rfl | m
        · exact h.keyOk h1
        · exact t.keysOk h2 k' m
/-- what a dict tells at a key -/
theorem dic_get {r : Nat} {ks vs : List D} {k : D} {a : Addr} {xs : List V} {u : HO} {y : V} (hu : L2.Rd H a u) (dh : DicHO r ks xs u) (hv : IsL K H Z vs xs) (hy : Is K H Z k y) (hk : keyFor r k = true) :
    (dget ks vs k = none ∧ DGet H a y none) ∨ ∃ d x, dget ks vs k = some d ∧ DGet H a y (some x) ∧ Is K H Z d x := by
  match r, dh with
  | 0, ⟨kvs, eu, ek, ex, ok⟩ =>
    subst eu ek ex
    have hk : (toKey k).isSome = true := hk
    obtain ⟨k', e⟩ := Option.isSome_iff_exists.mp hk
    have ey := hy.kV e
    rw [← toKey_kD e]
    rcases dget_val (k := k') kD_inj hv with ⟨h1, h2⟩ | ⟨d, x, h1, h2, h3⟩
    · exact .inl ⟨h1, .inl ⟨kvs, k', hu, ey, h2.symm⟩⟩
    · exact .inr ⟨d, x, h1, .inl ⟨kvs, k', hu, ey, h2.symm⟩, h3⟩
  | 1, ⟨kvs, eu, ek, ex, ok⟩ =>
    subst eu ek ex
    cases k with
    | tup ds =>
      have hk : (toKeys ds).isSome = true := hk
      obtain ⟨k', e⟩ := Option.isSome_iff_exists.mp hk
      obtain ⟨b, ys, ey, hb, ry⟩ := hy
      have e2 := ry.kVs e
      subst e2
      rw [← toKeys_kD e]
      rcases dget_val (f := fun q => D.tup (q.map kD)) (k := k') kT_inj hv with ⟨h1, h2⟩ | ⟨d, x, h1, h2, h3⟩
      · exact .inl ⟨h1, .inr ⟨kvs, k', b, hu, ey, hb, h2.symm⟩⟩
      · exact .inr ⟨d, x, h1, .inr ⟨kvs, k', b, hu, ey, hb, h2.symm⟩, h3⟩
    | _ => cases hk
end

/-! ### x[i] -/
def ixG (a i : D) : R D := match a, i with
  | .lst ds, .int i => match atI ds i with
    | some d => .ok d
    | none => .bad
  | .tup ds, .int i => match atI ds i with
    | some d => .ok d
    | none => .bad
  | .str s, .int i => if s.length ≤ sizeLine then match atI s i with
    | some c => .ok (.str [c])
    | none => .bad else .bad
  | .scr ns, .int i => match atI ns i with
    | some c => .ok (.int c)
    | none => .bad
  | .dic r ks vs, k => if keyFor r k = true then match dget ks vs k with
    | some d => .ok d
    | none => .bad else .bad
  | _, _ => .bad
theorem nox_ix (a b : D) : Nox (ixG a b) := by
  unfold ixG
  repeat' split
  all_goals first | exact nox_ok | exact nox_bad
section
variable {K : PySem.W.Frag} {H : Hp} {Z : Zs}
theorem atI_is {ds : List D} {vs : List V} {i : Int} {d : D} (h : IsL K H Z ds vs) (e : atI ds i = some d) : ∃ v, atI vs i = some v ∧ Is K H Z d v := by
  unfold atI at e ⊢
  rw [h.len]
  obtain ⟨j, hj, e⟩ := Option.bind_eq_some_iff.mp e
  obtain ⟨v, h1, h2⟩ := h.get e
  exact ⟨v, by rw [hj]; exact h1, h2⟩
theorem isL_ints : ∀ ns : List Int, IsL K H Z (ns.map D.int) (ns.map V.int)
  | [] => rfl
  | n :: ns => ⟨_, _, rfl, rfl, isL_ints ns⟩
theorem shared (zd : ∀ a, Z a → H a ≠ none) {Q : VK} {d : D} {v : V} (q : ∀ v H' Z' F, Ext Z Z' H H' → Fr Z' H F → Vl K H' Z' 1 F d v → Q v H') (h : Is K H Z d v) : Q v H := q v H Z [] (Ext.refl zd) Fr.nil ⟨rfl, h⟩
end
/-- by what stands there -/
def rIxG (K : PySem.W.Frag) : R2 := fun x y H Q => rIx K x y H Q
theorem p2_ix {K : PySem.W.Frag} : P2 K (rIx K) (fun a i => match a with | .dic _ _ _ => .bad | _ => ixG a i) 1 := by
  intro H Z d e x y Q zd hx hy q
  cases d with
  | lst ds =>
    cases e with
    | int i =>
      obtain ⟨a, xs, ea, ha, ra⟩ := hx
      cases hi : atI ds i with
      | some d =>
        simp only [ixG, hi] at q
        obtain ⟨v, hv, hd⟩ := atI_is ra hi
        exact .inl ⟨a, xs, i, v, ea, hy, .inl (.inl ha.2), hv, shared zd q hd⟩
      | none => simp only [ixG, hi] at q; exact q.elim
    | _ => exact q.elim
  | tup ds =>
    cases e with
    | int i =>
      obtain ⟨a, xs, ea, ha, ra⟩ := hx
      cases hi : atI ds i with
      | some d =>
        simp only [ixG, hi] at q
        obtain ⟨v, hv, hd⟩ := atI_is ra hi
        exact .inr (.inl ⟨a, xs, i, v, ea, hy, .inl (.inl ha), hv, shared zd q hd⟩)
      | none => simp only [ixG, hi] at q; exact q.elim
    | _ => exact q.elim
  | str s =>
    cases e with
    | int i =>
      by_cases hl : s.length ≤ sizeLine
      · cases hi : atI s i with
        | some c =>
          simp only [ixG, hi, if_pos hl] at q
          refine .inr (.inr ⟨ofT s, i, c, hx.1, hy, by rw [ofT_len]; exact hl, by simpa [ofT] using hi, ?_⟩)
          refine shared (d := .str [c]) zd q ⟨rfl, fun c' m => ?_⟩
          rw [List.mem_singleton.mp m]
          unfold atI at hi
          obtain ⟨j, _, hj⟩ := Option.bind_eq_some_iff.mp hi
          exact hx.2 c (List.mem_of_getElem? hj)
        | none => simp only [ixG, hi, if_pos hl] at q; exact q.elim
      · simp only [ixG, if_neg hl] at q; exact q.elim
    | _ => exact q.elim
  | scr ns =>
    cases e with
    | int i =>
      obtain ⟨a, ea, ha⟩ := hx
      cases hi : atI ns i with
      | some c =>
        simp only [ixG, hi] at q
        have h2 : atI (ns.map V.int) i = some (.int c) := by
          unfold atI at hi ⊢
          obtain ⟨j, h1, h2⟩ := Option.bind_eq_some_iff.mp hi
          rw [List.length_map, h1]
          show (ns.map V.int)[j]? = _
          rw [List.getElem?_map, h2]; rfl
        exact .inl ⟨a, _, i, _, ea, hy, ha.sq, h2, shared (d := .int c) zd q rfl⟩
      | none => simp only [ixG, hi] at q; exact q.elim
    | _ => exact q.elim
  | _ => cases e <;> exact q.elim
section
variable {K : PySem.W.Frag} {W : WX} {C : Cs} {ks : List Nat}
theorem PE.or {X : Cx} {e : Expr} {t t' : TE} (h : PE X e t) (h' : PE X e t') : PE X e (fun σ H Q => t σ H Q ∨ t' σ H Q) := ⟨fun pins s σ H Q I q => q.elim (h.run pins s σ H Q I) (h'.run pins s σ H Q I)⟩
theorem Ro.both {α : Type} {r : R α} {P P' : α → Prop} {E E' : Nat → Prop} (h : Ro r P E) (h' : ∀ a, r = .ok a → P a → P' a) (he : ∀ c, E c → E' c) : Ro r P' E' := by
  cases r with
  | ok a => exact h' a rfl h
  | ex c => exact he c h
  | bad => exact h
theorem SE.dget {ta tb : TE} {f1 f2 : Env → R D} {k1 k2 : Nat} (h1 : SE K W C ks ta f1 k1) (h2 : SE K W C ks tb f2 k2) :
    SE K W C ks (tDGet ta tb) (fun e => f1 e >>= fun a => f2 e >>= fun b => match a with | .dic _ _ _ => ixG a b | _ => .bad) (outK 1 (minK k1 k2)) := by
  refine SE.op2 (r := fun x y H Q => ∃ a v, x = .ref a ∧ DGet H a y (some v) ∧ Q v H) (g := fun a b => match a with | .dic _ _ _ => ixG a b | _ => .bad) (fun H Z d e x y Q zd hx hy q => ?_) (fun d e => ?_) h1 h2
  · cases d with
    | dic r ks vs =>
      obtain ⟨a, xs, u, ea, za, hu, dh, rv⟩ := hx
      by_cases hk : keyFor r e = true
      · rcases dic_get hu dh rv hy hk with ⟨g1, g2⟩ | ⟨d', x', g1, g2, g3⟩
        · simp only [ixG, if_pos hk, g1] at q
          exact q.elim
        · simp only [ixG, if_pos hk, g1] at q
          exact ⟨a, x', ea, g2, shared zd q g3⟩
      · simp only [ixG, if_neg hk] at q
        exact q.elim
    | _ => exact q.elim
  · cases d <;> first | exact nox_ix _ _ | exact nox_bad
/-- x[i], whatever x is -/
theorem SE.ix {ta tb : TE} {f1 f2 : Env → R D} {k1 k2 : Nat} (h1 : SE K W C ks ta f1 k1) (h2 : SE K W C ks tb f2 k2) :
    SE K W C ks (fun σ H Q => tOp (rIx K) ta tb σ H Q ∨ tDGet ta tb σ H Q) (fun e => f1 e >>= fun a => f2 e >>= fun b => ixG a b) (outK 1 (minK k1 k2)) := fun H0 Zc env σ H Z Fs Q s q => by
  have hs := SE.op2 (W := W) (C := C) (ks := ks) (K := K) p2_ix (fun d e => by cases d <;> first | exact nox_ix _ _ | exact nox_bad) h1 h2
  have hd := SE.dget h1 h2
  have q : Ro (f1 env >>= fun a => f2 env >>= fun b => ixG a b) _ _ := q
  cases e1 : f1 env with
  | ok a =>
    rw [e1] at q
    cases a with
    | dic r ks vs =>
      refine .inr (hd H0 Zc env σ H Z Fs Q s ?_)
      show Ro (f1 env >>= fun a => f2 env >>= fun b => match a with | .dic _ _ _ => ixG a b | _ => .bad) _ _
      rw [e1]
      exact q
    | _ =>
      refine .inl (hs H0 Zc env σ H Z Fs Q s ?_)
      show Ro (f1 env >>= fun a => f2 env >>= fun b => match a with | .dic _ _ _ => .bad | _ => ixG a b) _ _
      rw [e1]
      exact q
  | ex c =>
    rw [e1] at q
    refine .inl (hs H0 Zc env σ H Z Fs Q s ?_)
    show Ro (f1 env >>= fun a => f2 env >>= fun b => match a with | .dic _ _ _ => .bad | _ => ixG a b) _ _
    rw [e1]
    exact q
  | bad =>
    rw [e1] at q
    exact q.elim
end

/-! ### slices -/
def cutL {α : Type} (xs : List α) (lo hi : Option Int) : List α := (xs.drop (HT.sIx xs.length 0 lo)).take (HT.sIx xs.length xs.length hi - HT.sIx xs.length 0 lo)
def slG (a : D) (lo hi : Option Int) : R D := match a with
  | .lst ds => .ok (.lst (cutL ds lo hi))
  | .tup ds => .ok (.tup (cutL ds lo hi))
  | .str s => if s.length ≤ sizeLine then .ok (.str (cutL s lo hi)) else .bad
  | .scr ns => .ok (.lst ((cutL ns lo hi).map D.int))
  | _ => .bad
theorem nox_sl (a : D) (lo hi : Option Int) : Nox (slG a lo hi) := by
  unfold slG
  repeat' split
  all_goals first | exact nox_ok | exact nox_bad
theorem cut_map {α β : Type} (f : α → β) (xs : List α) (lo hi : Option Int) : cutL (xs.map f) lo hi = (cutL xs lo hi).map f := by
  unfold cutL
  rw [List.length_map, List.map_take, List.map_drop]
theorem cut_mem {α : Type} {xs : List α} {lo hi : Option Int} {a : α} (h : a ∈ cutL xs lo hi) : a ∈ xs := List.mem_of_mem_drop (List.mem_of_mem_take h)
theorem IsL.cut {K : PySem.W.Frag} {H : Hp} {Z : Zs} {ds : List D} {vs : List V} (h : IsL K H Z ds vs) (lo hi : Option Int) : IsL K H Z (cutL ds lo hi) (cutV vs lo hi) := by
  unfold cutL cutV
  rw [h.len]
  exact (h.drop _).take _
def rSlG (K : PySem.W.Frag) : V → Option Int → Option Int → Hp → VK → Prop := fun x lo hi H Q => rSlL K x lo hi H Q ∨ rSlA K x lo hi H Q ∨ rSlS x lo hi H Q
theorem sl_any {X : Cx} : SlR X (rSlG X.K) := sl_list.or (sl_tupA.or sl_str)
theorem p1_sl {K : PySem.W.Frag} {lo hi : Option Int} : P1 K (fun x H Q => rSlG K x lo hi H Q) (fun a => slG a lo hi) 2 := by
  intro H Z d x Q zd hx q
  cases d with
  | lst ds =>
    obtain ⟨a, xs, ea, ha, ra⟩ := hx
    exact .inl ⟨a, xs, ea, .inl (.inl ha.2), newL zd (ra.cut lo hi) q⟩
  | tup ds =>
    have hx' := hx
    obtain ⟨a, xs, ea, ha, ra⟩ := hx
    refine .inr (.inl ⟨a, xs, ea, .inl (.inl ha), fun ⟨w1, w2⟩ => ?_, fun _ => newT zd (ra.cut lo hi) q⟩)
    have e : cutL ds lo hi = ds := by
      unfold cutL
      rw [← ra.len, w1, w2, List.drop_zero, ra.len, Nat.sub_zero, List.take_length]
    have q : ∀ v H' Z' F, Ext Z Z' H H' → Fr Z' H F → Vl K H' Z' 2 F (.tup (cutL ds lo hi)) v → Q v H' := q
    rw [e] at q
    have := oldT zd hx' q
    rw [ea] at this
    exact this
  | str s =>
    by_cases hl : s.length ≤ sizeLine
    · simp only [slG, if_pos hl] at q
      refine .inr (.inr ⟨ofT s, hx.1, by rw [ofT_len]; exact hl, ?_⟩)
      have e : cutS (ofT s) lo hi = ofT (cutL s lo hi) := by
        unfold cutS cutL ofT Str.length
        simp
      rw [e]
      exact q _ H Z [] (Ext.refl zd) Fr.nil ⟨rfl, rfl, fun c m => hx.2 c (cut_mem m)⟩
    · simp only [slG, if_neg hl] at q
      exact q.elim
  | scr ns =>
    obtain ⟨a, ea, ha⟩ := hx
    refine .inl ⟨a, _, ea, ha.sq, ?_⟩
    have e : cutV (ns.map V.int) lo hi = (cutL ns lo hi).map V.int := cut_map V.int ns lo hi
    rw [e]
    exact newL zd (isL_ints _) q
  | _ => exact q.elim
/-- a slice's part -/
def STo (K : PySem.W.Frag) (W : WX) (C : Cs) (ks : List Nat) (t : TO) (f : Env → R (Option Int)) : Prop := ∀ (H0 : Hp) (Zc : Zs) (env : Env) (σ : St) (H : Hp) (Z : Zs) (Fs : Nat → List Addr) (Q : Option Int → Hp → Prop), SI K H0 Zc ks env σ H Z Fs →
  Ro (f env) (fun o => ∀ H' Z', Ext Z Z' H H' → Q o H') (fun c => ∀ H' Z', Ext Z Z' H H' → W (C c) none σ H') → t σ H Q
def asI (d : D) : R (Option Int) := match d with
  | .int i => .ok (some i)
  | _ => .bad
section
variable {K : PySem.W.Frag} {W : WX} {C : Cs} {ks : List Nat}
theorem STo.none : STo K W C ks tNoPart (fun _ => .ok none) := fun H0 Zc env σ H Z Fs Q s q => q H Z (Ext.refl s.ext.zd)
theorem Vl.int {H : Hp} {Z : Zs} {k : Nat} {F : List Addr} {b : Int} {v : V} (h : Vl K H Z k F (.int b) v) : v = .int b := by
  match k, h with
  | 0, h => exact h.2
  | 1, h => exact h.2
  | 2, h => exact h.2
  | n + 3, h => exact h.1
theorem STo.some {te : TE} {f : Env → R D} {k : Nat} (h : SE K W C ks te f k) : STo K W C ks (tPart te) (fun e => f e >>= asI) := fun H0 Zc env σ H Z Fs Q s q => by
  refine h H0 Zc env σ H Z Fs _ s (q.bind.mono (fun d q v H1 Z1 F x fr vl => ?_) fun c q => q)
  cases d with
  | int i => exact ⟨i, vl.int, q H1 Z1 x⟩
  | _ => exact q.elim
theorem SE.slice {te : TE} {tl th : TO} {f : Env → R D} {fl fh : Env → R (Option Int)} {k : Nat} (h : SE K W C ks te f k) (hl : STo K W C ks tl fl) (hh : STo K W C ks th fh) :
    SE K W C ks (tSl (rSlG K) te tl th) (fun e => f e >>= fun a => fl e >>= fun lo => fh e >>= fun hi => slG a lo hi) (outK 2 k) := by
  by_cases hk : k = 0
  · have ek : outK 2 k = 0 := by unfold outK; rw [if_neg (by decide), if_pos hk]
    rw [ek]
    intro H0 Zc env σ H Z Fs Q s q
    refine h.read H0 Zc env σ H Z Fs _ s (q.bind.mono (fun d q v H1 Z1 F x fr vl => ?_) fun c q => q)
    obtain ⟨rfl, vl⟩ := vl
    refine hl H0 Zc env σ H1 Z1 Fs _ (s.go x) (q.bind.mono (fun lo q H2 Z2 x2 => ?_) fun c q H2 Z2 x2 => q H2 Z2 (x.trans x2))
    refine hh H0 Zc env σ H2 Z2 Fs _ ((s.go x).go x2) (q.bind.mono (fun hi q H3 Z3 x3 => ?_) fun c q H3 Z3 x3 => q H3 Z3 ((x.trans x2).trans x3))
    have xx := (x.trans x2).trans x3
    have vl3 : Is K H3 (fun a => H3 a ≠ none) d v := vl.keep (Kp.of_same (x2.trans x3).same) (dom_mono (x2.trans x3).same)
    refine p1_sl (K := K) H3 (fun a => H3 a ≠ none) d v Q (fun _ z => z) vl3 (Ro.nx (E := fun c => ∀ (H' : Hp) (Z' : Zs), Ext Z Z' H H' → W (C c) Option.none σ H') (nox_sl d lo hi) (q.mono (fun d q v H4 Z4 F4 x4 fr4 vl4 => ?_) fun c q => q))
    have x5 : Ext Z3 Z3 H3 H4 := ⟨x4.same, fun _ z => z, fun _ z => .inl z, fun a z => dom_mono x4.same a (xx.zd a z)⟩
    exact q v H4 Z3 [] (xx.trans x5) Fr.nil ⟨rfl, vl4.is0 x4.zd⟩
  · have ek : outK 2 k = 2 := by unfold outK; rw [if_neg (by decide), if_neg hk]
    rw [ek]
    intro H0 Zc env σ H Z Fs Q s q
    refine (h.to1 hk) H0 Zc env σ H Z Fs _ s (q.bind.mono (fun d q v H1 Z1 F x fr vl => ?_) fun c q => q)
    obtain ⟨rfl, vl⟩ := vl
    refine hl H0 Zc env σ H1 Z1 Fs _ (s.go x) (q.bind.mono (fun lo q H2 Z2 x2 => ?_) fun c q H2 Z2 x2 => q H2 Z2 (x.trans x2))
    refine hh H0 Zc env σ H2 Z2 Fs _ ((s.go x).go x2) (q.bind.mono (fun hi q H3 Z3 x3 => ?_) fun c q H3 Z3 x3 => q H3 Z3 ((x.trans x2).trans x3))
    have xx := (x.trans x2).trans x3
    have x23 := x2.trans x3
    refine p1_sl (K := K) H3 Z3 d v Q xx.zd (vl.keep x23.keep x23.zm) (Ro.nx (E := fun c => ∀ (H' : Hp) (Z' : Zs), Ext Z Z' H H' → W (C c) Option.none σ H') (nox_sl d lo hi) (q.mono (fun d q v H4 Z4 F4 x4 fr4 vl4 => ?_) fun c q => q))
    exact q v H4 Z4 F4 (xx.trans x4) ⟨fr4.nd, fun a m => ⟨xx.same.free (fr4.nw a m).1, (fr4.nw a m).2⟩⟩ vl4
end
end Pu

/-! PuI: built-in functions on plain data. -/
namespace Pu
open PySem PySem.Spec PyProof.Rows L2

def one (f : D → R D) (ds : List D) : R D := match ds with
  | [a] => f a
  | _ => .bad
def two (f : D → D → R D) (ds : List D) : R D := match ds with
  | [a, b] => f a b
  | _ => .bad
section
variable {K : PySem.W.Frag} {H : Hp} {Z : Zs}
theorem isL_one {a : D} {vs : List V} (h : IsL K H Z [a] vs) : ∃ x, vs = [x] ∧ Is K H Z a x := by
  obtain ⟨x, r, e, h, t⟩ := h
  have t : r = [] := t
  subst t
  exact ⟨x, e, h⟩
theorem isL_two {a b : D} {vs : List V} (h : IsL K H Z [a, b] vs) : ∃ x y, vs = [x, y] ∧ Is K H Z a x ∧ Is K H Z b y := by
  obtain ⟨x, r, e, h, y, r2, e2, h2, t⟩ := h
  have t : r2 = [] := t
  subst t e2
  exact ⟨x, y, e, h, h2⟩
/-- a rule of one value, told of a list of it -/
theorem prim_one {r : List V → Hp → VK → Prop} {f : D → R D} {k : Nat} {E : Nat → Hp → Prop} (n : ∀ d, Nox (f d)) (h : P1 K (fun x H Q => r [x] H Q) f k) : Prim K r (one f) k E := by
  intro H Z ds vs Q zd vl q
  match ds, vl with
  | [], _ => exact q.elim
  | [a], vl =>
    obtain ⟨x, e, h1⟩ := isL_one vl
    subst e
    exact h H Z a x Q zd h1 (Ro.nx (n a) q)
  | _ :: _ :: _, _ => exact q.elim
theorem prim_two {r : List V → Hp → VK → Prop} {f : D → D → R D} {k : Nat} {E : Nat → Hp → Prop} (n : ∀ d e, Nox (f d e)) (h : P2 K (fun x y H Q => r [x, y] H Q) f k) : Prim K r (two f) k E := by
  intro H Z ds vs Q zd vl q
  match ds, vl with
  | [], _ => exact q.elim
  | [_], _ => exact q.elim
  | [a, b], vl =>
    obtain ⟨x, y, e, h1, h2⟩ := isL_two vl
    subst e
    exact h H Z a b x y Q zd h1 h2 (Ro.nx (n a b) q)
  | _ :: _ :: _ :: _, _ => exact q.elim
end

/-! ### len -/
def lenG (a : D) : R D := match a with
  | .lst ds => okI ds.length
  | .tup ds => okI ds.length
  | .str s => if s.length ≤ sizeLine then okI s.length else .bad
  | .scr ns => okI ns.length
  | .dic 0 ks _ => okI ks.length
  | _ => .bad
theorem nox_len (a : D) : Nox (lenG a) := by
  unfold lenG
  repeat' split
  all_goals first | exact nox_ok | exact nox_bad
def rLenG (K : PySem.W.Frag) : List V → Hp → VK → Prop := fun xs H Q => (∃ x n, xs = [x] ∧ LenV K x H n ∧ Q (.int n) H) ∨ ∃ a kvs, xs = [V.ref a] ∧ L2.Rd H a (.dK kvs) ∧ Q (.int kvs.length) H
theorem call_lenR {X : Cx} : CallR X (.builtin "len") (fun xs H Q => ∃ a kvs, xs = [V.ref a] ∧ L2.Rd H a (.dK kvs) ∧ Q (.int kvs.length) H) := by
  intro pins s σ H xs us Q I r h
  obtain ⟨a, kvs, rfl, ha, q⟩ := h
  obtain ⟨u, rfl, ru⟩ := vals1 r
  cases ru
  exact d_len I ha fun t s' I' => ⟨.int kvs.length, H, I', ⟨t, rfl⟩, q⟩
theorem call_lenG {X : Cx} : CallR X (.builtin "len") (rLenG X.K) := call_len.or call_lenR
theorem p1_len {K : PySem.W.Frag} : P1 K (fun x H Q => rLenG K [x] H Q) lenG 3 := by
  intro H Z d x Q zd hx q
  cases d with
  | lst ds =>
    obtain ⟨a, xs, ea, ha, ra⟩ := hx
    subst ea
    refine .inl ⟨_, xs.length, rfl, .inl ⟨xs, .inl (.inl ha.2), rfl⟩, ?_⟩
    rw [ra.len]
    exact done zd q ow_int
  | tup ds =>
    obtain ⟨a, xs, ea, ha, ra⟩ := hx
    subst ea
    refine .inl ⟨_, xs.length, rfl, .inr ⟨xs, .inl (.inl ha), rfl⟩, ?_⟩
    rw [ra.len]
    exact done zd q ow_int
  | str s =>
    by_cases hl : s.length ≤ sizeLine
    · simp only [lenG, if_pos hl] at q
      refine .inl ⟨_, s.length, rfl, ?_, done zd q ow_int⟩
      rw [hx.1]
      exact ⟨by rw [ofT_len]; exact hl, (ofT_len s).symm⟩
    · simp only [lenG, if_neg hl] at q
      exact q.elim
  | scr ns =>
    obtain ⟨a, ea, ha⟩ := hx
    subst ea
    refine .inl ⟨_, (ns.map V.int).length, rfl, .inl ⟨_, ha.sq, rfl⟩, ?_⟩
    rw [List.length_map]
    exact done zd q ow_int
  | dic r ks vs =>
    obtain ⟨a, xs, u, ea, za, hu, dh, rv⟩ := hx
    match r, dh with
    | 0, ⟨kvs, eu, ek, ex, _⟩ =>
      subst eu ek ea
      refine .inr ⟨a, kvs, rfl, hu, ?_⟩
      have q : Ro (okI ((kvs.map fun p => kD p.1).length : Nat)) _ _ := q
      rw [List.length_map] at q
      exact done zd q ow_int
    | 1, _ => exact q.elim
  | _ => exact q.elim

/-! ### of intsOf -/
def intsOf : List D → Option (List Int)
  | [] => some []
  | .int i :: ds => (intsOf ds).map (i :: ·)
  | _ => none
theorem ints_is {K : PySem.W.Frag} {H : Hp} {Z : Zs} : ∀ {ds : List D} {vs : List V} {ns : List Int}, IsL K H Z ds vs → intsOf ds = some ns → vs = ns.map V.int
  | [], _, ns, h, e => by cases e; exact h
  | .int i :: ds, _, ns, ⟨x, r, ev, h, t⟩, e => by
    unfold intsOf at e
    obtain ⟨m, h1, h2⟩ := Option.map_eq_some_iff.mp e
    subst h2
    have h : x = .int i := h
    rw [ev, h, ints_is t h1, List.map_cons]
  | .non :: _, _, _, _, e => by simp [intsOf] at e
  | .bl _ :: _, _, _, _, e => by simp [intsOf] at e
  | .str _ :: _, _, _, _, e => by simp [intsOf] at e
  | .tup _ :: _, _, _, _, e => by simp [intsOf] at e
  | .lst _ :: _, _, _, _, e => by simp [intsOf] at e
  | .dic _ _ _ :: _, _, _, _, e => by simp [intsOf] at e
  | .exc _ :: _, _, _, _, e => by simp [intsOf] at e
  | .scr _ :: _, _, _, _, e => by simp [intsOf] at e
theorem ints_map : ∀ ns : List Int, intsOf (ns.map D.int) = some ns
  | [] => rfl
  | n :: ns => by
    show (intsOf (ns.map D.int)).map (n :: ·) = _
    rw [ints_map ns]; rfl
def onL (f : List Int → R D) (a : D) : R D := match a with
  | .lst ds => match intsOf ds with
    | some ns => f ns
    | none => .bad
  | _ => .bad
theorem nox_onL {f : List Int → R D} (h : ∀ ns, Nox (f ns)) (a : D) : Nox (onL f a) := by
  unfold onL
  split
  · split
    · exact h _
    · exact nox_bad
  · exact nox_bad
def sumG : D → R D := onL fun ns => okI ns.sum
theorem onL_at {K : PySem.W.Frag} {H : Hp} {Z : Zs} {f : List Int → R D} {d : D} {x : V} {P : D → Prop} {E : Nat → Prop} (hx : Is K H Z d x) (q : Ro (onL f d) P E) : ∃ a ns, x = .ref a ∧ SqL K H a (ns.map V.int) ∧ Ro (f ns) P E := by
  cases d with
  | lst ds =>
    obtain ⟨a, xs, ea, ha, ra⟩ := hx
    cases hi : intsOf ds with
    | some ns =>
      simp only [onL, hi] at q
      have e := ints_is ra hi
      subst e
      exact ⟨a, ns, ea, .inl (.inl ha.2), q⟩
    | none => simp only [onL, hi] at q; exact q.elim
  | _ => exact q.elim
theorem p1_sum {K : PySem.W.Frag} : P1 K (fun x H Q => rSum K [x] H Q) sumG 3 := by
  intro H Z d x Q zd hx q
  obtain ⟨a, ns, e, hs, q⟩ := onL_at hx q
  subst e
  exact ⟨a, ns, rfl, hs, done zd q ow_int⟩
/-- the greatest, the least of some -/
def maxL : List Int → Option Int
  | [] => none
  | n :: ns => match maxL ns with
    | none => some n
    | some m => some (max n m)
def minL : List Int → Option Int
  | [] => none
  | n :: ns => match minL ns with
    | none => some n
    | some m => some (min n m)
theorem maxL_none : ∀ {ns : List Int}, maxL ns = none → ns = []
  | [], _ => rfl
  | n :: ns, h => by unfold maxL at h; split at h <;> cases h
theorem minL_none : ∀ {ns : List Int}, minL ns = none → ns = []
  | [], _ => rfl
  | n :: ns, h => by unfold minL at h; split at h <;> cases h
theorem maxL_is : ∀ {ns : List Int} {m : Int}, maxL ns = some m → m ∈ ns ∧ ∀ y ∈ ns, y ≤ m
  | [], _, h => by cases h
  | n :: ns, m, h => by
    unfold maxL at h
    cases h2 : maxL ns with
    | none =>
      rw [h2] at h
      cases h
      have := maxL_none h2
      subst this
      exact ⟨List.mem_cons_self, fun y hy => by rw [List.mem_singleton.mp hy]; exact Int.le_refl _⟩
    | some k =>
      rw [h2] at h
      cases h
      obtain ⟨h3, h4⟩ := maxL_is h2
      refine ⟨?_, fun y hy => ?_⟩
      · rcases Int.le_total n k with c | c
        · rw [Int.max_eq_right c]; exact List.mem_cons_of_mem _ h3
        · rw [Int.max_eq_left c]; exact List.mem_cons_self
      · rcases List.mem_cons.mp hy with rfl | hy
        · exact Int.le_max_left _ _
        · exact Int.le_trans (h4 y hy) (Int.le_max_right _ _)
theorem minL_is : ∀ {ns : List Int} {m : Int}, minL ns = some m → m ∈ ns ∧ ∀ y ∈ ns, m ≤ y
  | [], _, h => by cases h
  | n :: ns, m, h => by
    unfold minL at h
    cases h2 : minL ns with
    | none =>
      rw [h2] at h
      cases h
      have := minL_none h2
      subst this
      exact ⟨List.mem_cons_self, fun y hy => by rw [List.mem_singleton.mp hy]; exact Int.le_refl _⟩
    | some k =>
      rw [h2] at h
      cases h
      obtain ⟨h3, h4⟩ := minL_is h2
      refine ⟨?_, fun y hy => ?_⟩
      · rcases Int.le_total n k with c | c
        · rw [Int.min_eq_left c]; exact List.mem_cons_self
        · rw [Int.min_eq_right c]; exact List.mem_cons_of_mem _ h3
      · rcases List.mem_cons.mp hy with rfl | hy
        · exact Int.min_le_left _ _
        · exact Int.le_trans (Int.min_le_right _ _) (h4 y hy)
def optI (o : Option Int) : R D := match o with
  | some m => okI m
  | none => .bad
theorem nox_optI (o : Option Int) : Nox (optI o) := by
  unfold optI
  split
  · exact nox_ok
  · exact nox_bad
def maxG : D → R D := onL fun ns => optI (maxL ns)
def minG : D → R D := onL fun ns => optI (minL ns)
theorem p1_max {K : PySem.W.Frag} : P1 K (fun x H Q => rMax K [x] H Q) maxG 3 := by
  intro H Z d x Q zd hx q
  obtain ⟨a, ns, e, hs, q⟩ := onL_at hx q
  subst e
  cases hm : maxL ns with
  | none => rw [hm] at q; exact q.elim
  | some m =>
    rw [hm] at q
    obtain ⟨h1, h2⟩ := maxL_is hm
    refine ⟨a, ns, rfl, hs, List.length_pos_of_mem h1, fun m' g1 g2 => ?_⟩
    have e : m' = m := Int.le_antisymm (h2 _ g1) (g2 _ h1)
    subst e
    exact done zd q ow_int
theorem p1_min {K : PySem.W.Frag} : P1 K (fun x H Q => rMin K [x] H Q) minG 3 := by
  intro H Z d x Q zd hx q
  obtain ⟨a, ns, e, hs, q⟩ := onL_at hx q
  subst e
  cases hm : minL ns with
  | none => rw [hm] at q; exact q.elim
  | some m =>
    rw [hm] at q
    obtain ⟨h1, h2⟩ := minL_is hm
    refine ⟨a, ns, rfl, hs, List.length_pos_of_mem h1, fun m' g1 g2 => ?_⟩
    have e : m' = m := Int.le_antisymm (g2 _ h1) (h2 _ g1)
    subst e
    exact done zd q ow_int
def max2 : D → D → R D := onI fun i j => okI (if j > i then j else i)
def min2 : D → D → R D := onI fun i j => okI (if j < i then j else i)
theorem p2_max {K : PySem.W.Frag} : P2 K (fun x y H Q => ∃ i j, [x, y] = [V.int i, V.int j] ∧ Q (.int (if j > i then j else i)) H) max2 3 := by
  intro H Z d e x y Q zd hx hy q
  cases d with
  | int i =>
    cases e with
    | int j =>
      have hx : x = .int i := hx
      have hy : y = .int j := hy
      subst hx hy
      exact ⟨i, j, rfl, done zd q ow_int⟩
    | _ => exact q.elim
  | _ => exact q.elim
theorem p2_min {K : PySem.W.Frag} : P2 K (fun x y H Q => ∃ i j, [x, y] = [V.int i, V.int j] ∧ Q (.int (if j < i then j else i)) H) min2 3 := by
  intro H Z d e x y Q zd hx hy q
  cases d with
  | int i =>
    cases e with
    | int j =>
      have hx : x = .int i := hx
      have hy : y = .int j := hy
      subst hx hy
      exact ⟨i, j, rfl, done zd q ow_int⟩
    | _ => exact q.elim
  | _ => exact q.elim

/-! ### of truths -/
def bools : List D → Option (List Bool)
  | [] => some []
  | .bl i :: ds => (bools ds).map (i :: ·)
  | _ => none
theorem bools_is {K : PySem.W.Frag} {H : Hp} {Z : Zs} : ∀ {ds : List D} {vs : List V} {ns : List Bool}, IsL K H Z ds vs → bools ds = some ns → vs = ns.map V.bl
  | [], _, ns, h, e => by cases e; exact h
  | .bl i :: ds, _, ns, ⟨x, r, ev, h, t⟩, e => by
    unfold bools at e
    obtain ⟨m, h1, h2⟩ := Option.map_eq_some_iff.mp e
    subst h2
    have h : x = .bl i := h
    rw [ev, h, bools_is t h1, List.map_cons]
  | .non :: _, _, _, _, e => by simp [bools] at e
  | .int _ :: _, _, _, _, e => by simp [bools] at e
  | .str _ :: _, _, _, _, e => by simp [bools] at e
  | .tup _ :: _, _, _, _, e => by simp [bools] at e
  | .lst _ :: _, _, _, _, e => by simp [bools] at e
  | .dic _ _ _ :: _, _, _, _, e => by simp [bools] at e
  | .exc _ :: _, _, _, _, e => by simp [bools] at e
  | .scr _ :: _, _, _, _, e => by simp [bools] at e
theorem bools_map : ∀ ns : List Bool, bools (ns.map D.bl) = some ns
  | [] => rfl
  | n :: ns => by
    show (bools (ns.map D.bl)).map (n :: ·) = _
    rw [bools_map ns]; rfl
def onBs (f : List Bool → Bool) (a : D) : R D := match a with
  | .lst ds => match bools ds with
    | some ns => okB (f ns)
    | none => .bad
  | _ => .bad
theorem nox_onBs {f : List Bool → Bool} (a : D) : Nox (onBs f a) := by
  unfold onBs
  split
  · split
    · exact nox_ok
    · exact nox_bad
  · exact nox_bad
def allG : D → R D := onBs fun bs => bs.all id
def anyG : D → R D := onBs fun bs => bs.any id
theorem onBs_at {K : PySem.W.Frag} {H : Hp} {Z : Zs} {f : List Bool → Bool} {d : D} {x : V} {P : D → Prop} {E : Nat → Prop} (hx : Is K H Z d x) (q : Ro (onBs f d) P E) : ∃ a ns, x = .ref a ∧ SqL K H a (ns.map V.bl) ∧ Ro (okB (f ns)) P E := by
  cases d with
  | lst ds =>
    obtain ⟨a, xs, ea, ha, ra⟩ := hx
    cases hi : bools ds with
    | some ns =>
      simp only [onBs, hi] at q
      have e := bools_is ra hi
      subst e
      exact ⟨a, ns, ea, .inl (.inl ha.2), q⟩
    | none => simp only [onBs, hi] at q; exact q.elim
  | _ => exact q.elim
theorem p1_all {K : PySem.W.Frag} : P1 K (fun x H Q => rAll K [x] H Q) allG 3 := by
  intro H Z d x Q zd hx q
  obtain ⟨a, ns, e, hs, q⟩ := onBs_at hx q
  subst e
  exact ⟨a, ns, rfl, hs, done zd q ow_bl⟩
theorem p1_any {K : PySem.W.Frag} : P1 K (fun x H Q => rAny K [x] H Q) anyG 3 := by
  intro H Z d x Q zd hx q
  obtain ⟨a, ns, e, hs, q⟩ := onBs_at hx q
  subst e
  exact ⟨a, ns, rfl, hs, done zd q ow_bl⟩

/-! ### ord, str, int -/
def ordG (a : D) : R D := match a with
  | .str [c] => okI c
  | _ => .bad
theorem nox_ord (a : D) : Nox (ordG a) := by
  unfold ordG
  split
  · exact nox_ok
  · exact nox_bad
theorem p1_ord {K : PySem.W.Frag} : P1 K (fun y H Q => ∃ x, [y] = [V.str x] ∧ x.length = 1 ∧ Q (.int (x.cps.getD 0 0 : Nat)) H) ordG 3 := by
  intro H Z d x Q zd hx q
  cases d with
  | str s =>
    match s, hx, q with
    | [c], hx, q => exact ⟨ofT [c], by rw [hx.1], rfl, done zd q ow_int⟩
    | [], _, q => exact q.elim
    | _ :: _ :: _, _, q => exact q.elim
  | _ => exact q.elim
def digs (i : Int) : Txt := (Str.ofString (toString i)).cps.toList
def strG (a : D) : R D := match a with
  | .int i => if i.natAbs.log2 < 1920 then .ok (.str (digs i)) else .bad
  | .str s => .ok (.str s)
  | _ => .bad
theorem nox_str (a : D) : Nox (strG a) := by
  unfold strG
  repeat' split
  all_goals first | exact nox_ok | exact nox_bad
def intG (a : D) : R D := match a with
  | .int i => okI i
  | .bl b => okI (if b then 1 else 0)
  | _ => .bad
theorem nox_int (a : D) : Nox (intG a) := by
  unfold intG
  repeat' split
  all_goals first | exact nox_ok | exact nox_bad
theorem p1_int {K : PySem.W.Frag} : P1 K (fun x H Q => (∃ i, [x] = [V.int i] ∧ Q (.int i) H) ∨ ∃ k, [x] = [V.bl k] ∧ Q (.int (if k then 1 else 0)) H) intG 3 := by
  intro H Z d x Q zd hx q
  cases d with
  | int i =>
    have hx : x = .int i := hx
    subst hx
    exact .inl ⟨i, rfl, done zd q ow_int⟩
  | bl i =>
    have hx : x = .bl i := hx
    subst hx
    exact .inr ⟨i, rfl, done zd q ow_int⟩
  | _ => exact q.elim

/-! ### list(x), tuple(x), sorted(x) -/
def listG (a : D) : R D := match a with
  | .lst ds => .ok (.lst ds)
  | .tup ds => .ok (.lst ds)
  | _ => .bad
def tupleG (a : D) : R D := match a with
  | .lst ds => .ok (.tup ds)
  | .tup ds => .ok (.tup ds)
  | _ => .bad
theorem nox_list (a : D) : Nox (listG a) := by
  unfold listG
  repeat' split
  all_goals first | exact nox_ok | exact nox_bad
theorem nox_tuple (a : D) : Nox (tupleG a) := by
  unfold tupleG
  repeat' split
  all_goals first | exact nox_ok | exact nox_bad
theorem p1_list {K : PySem.W.Frag} : P1 K (fun x H Q => ∃ p ys, [x] = [V.ref p] ∧ (SqL K H p ys ∨ SqT K H p ys) ∧ ∀ l, H l = none → Q (.ref l) (upd H l (.lst ys))) listG 2 := by
  intro H Z d x Q zd hx q
  cases d with
  | lst ds =>
    obtain ⟨a, xs, ea, ha, ra⟩ := hx
    subst ea
    exact ⟨a, xs, rfl, .inl (.inl (.inl ha.2)), newL zd ra q⟩
  | tup ds =>
    obtain ⟨a, xs, ea, ha, ra⟩ := hx
    subst ea
    exact ⟨a, xs, rfl, .inr (.inl (.inl ha)), newL zd ra q⟩
  | _ => exact q.elim
theorem p1_tuple {K : PySem.W.Frag} : P1 K (fun x H Q => ∃ p ys, [x] = [V.ref p] ∧ ((SqL K H p ys ∧ ∀ l, H l = none → Q (.ref l) (upd H l (.tup ys))) ∨ (SqT K H p ys ∧ Q (.ref p) H))) tupleG 2 := by
  intro H Z d x Q zd hx q
  cases d with
  | lst ds =>
    obtain ⟨a, xs, ea, ha, ra⟩ := hx
    subst ea
    exact ⟨a, xs, rfl, .inl ⟨.inl (.inl ha.2), newT zd ra q⟩⟩
  | tup ds =>
    have hx' := hx
    obtain ⟨a, xs, ea, ha, ra⟩ := hx
    subst ea
    exact ⟨a, xs, rfl, .inr ⟨.inl (.inl ha), oldT zd hx' q⟩⟩
  | _ => exact q.elim
def alikeB (ds : List D) : Bool := ds.all fun a => ds.all fun b => PySem.W.alike (toPy a) (toPy b)
def isTupB (a : D) : Bool := match a with
  | .tup (_ :: _) => true
  | _ => false
def noTupB (a : D) : Bool := match a with
  | .tup _ => false
  | .non => false
  | _ => true
def sortB (ds : List D) : Bool := ds.all isTupB || ds.all noTupB
def sortOk (ds : List D) : Bool := pyOkL 60 ds && flatL ds && alikeB ds && sortB ds
def sortD (ds : List D) : List D := ds.mergeSort leD
/-- a dict's keys that are texts, fewer than 64 -/
def strKeys : List D → Option (List Txt)
  | [] => some []
  | .str s :: ds => (strKeys ds).map (s :: ·)
  | _ => none
def sortedG (a : D) : R D := match a with
  | .lst ds => ifR (sortOk ds) (.ok (.lst (sortD ds)))
  | .tup ds => .bad
  | .dic 0 ks _ => match strKeys ks with
    | some ss => ifR (decide (ss.length < 64)) (.ok (.lst (sortD ks)))
    | none => .bad
  | _ => .bad
theorem nox_sorted (a : D) : Nox (sortedG a) := by
  unfold sortedG
  repeat' split
  all_goals first | exact nox_if nox_ok | exact nox_bad
theorem mem_zip_is {K : PySem.W.Frag} {H : Hp} {Z : Zs} : ∀ {ds : List D} {vs : List V}, IsL K H Z ds vs → ∀ p ∈ vs.zip ds, Is K H Z p.2 p.1 ∧ p.2 ∈ ds
  | [], vs, h, p, m => by simp at m
  | d :: ds, _, ⟨x, r, e, h, t⟩, p, m => by
    subst e
    rcases List.mem_cons.mp m with rfl | m
    · exact ⟨h, List.mem_cons_self⟩
    · obtain ⟨h1, h2⟩ := mem_zip_is t p m
      exact ⟨h1, List.mem_cons_of_mem _ h2⟩
theorem isL_of_pairs {K : PySem.W.Frag} {H : Hp} {Z : Zs} : ∀ {ps : List (V × D)}, (∀ p ∈ ps, Is K H Z p.2 p.1) → IsL K H Z (ps.map (·.2)) (ps.map (·.1))
  | [], _ => rfl
  | p :: ps, h => ⟨p.1, _, rfl, h p List.mem_cons_self, isL_of_pairs fun q m => h q (List.mem_cons_of_mem _ m)⟩
theorem flat_of_mem {ds : List D} (h : flatL ds = true) {ps : List (V × D)} (hp : ∀ p ∈ ps, p.2 ∈ ds) : flatL (ps.map (·.2)) = true := by
  rw [flatL_iff] at h ⊢
  intro d m
  obtain ⟨p, m1, rfl⟩ := List.mem_map.mp m
  exact h _ (hp p m1)
theorem newFlat {K : PySem.W.Frag} {H : Hp} {Z : Zs} {Q : VK} (zd : ∀ a, Z a → H a ≠ none) {ds : List D} {vs : List V} (h : IsL K H Z ds vs) (f : flatL ds = true) (q : ∀ v H' Z' F, Ext Z Z' H H' → Fr Z' H F → Vl K H' Z' 3 F (.lst ds) v → Q v H') : ∀ p, H p = none → Q (.ref p) (upd H p (.lst vs)) := fun p hp => by
  obtain ⟨F', x', fr', vl'⟩ := newList (K := K) (Ext.refl zd) Fr.nil (show VlL K H Z 3 [] ds vs from h.flat f) (.inr (.inr rfl)) hp
  exact q _ _ Z F' x' fr' vl'
theorem zip_fst : ∀ {ds : List D} {vs : List V}, vs.length = ds.length → (vs.zip ds).map (·.1) = vs
  | _, [], _ => rfl
  | [], _ :: _, h => by simp at h
  | d :: ds, v :: vs, h => by
    rw [List.zip_cons_cons, List.map_cons, zip_fst (by simpa using h)]
theorem zip_snd : ∀ {ds : List D} {vs : List V}, vs.length = ds.length → (vs.zip ds).map (·.2) = ds
  | [], vs, _ => by simp
  | d :: ds, [], h => by simp at h
  | d :: ds, v :: vs, h => by
    rw [List.zip_cons_cons, List.map_cons, zip_snd (by simpa using h)]
theorem strKeys_is : ∀ {ks : List D} {ss : List Txt}, strKeys ks = some ss → ks = ss.map D.str
  | [], ss, h => by cases h; rfl
  | .str s :: ds, ss, h => by
    unfold strKeys at h
    obtain ⟨m, h1, h2⟩ := Option.map_eq_some_iff.mp h
    subst h2
    rw [strKeys_is h1, List.map_cons]
  | .non :: _, _, e => by simp [strKeys] at e
  | .bl _ :: _, _, e => by simp [strKeys] at e
  | .int _ :: _, _, e => by simp [strKeys] at e
  | .tup _ :: _, _, e => by simp [strKeys] at e
  | .lst _ :: _, _, e => by simp [strKeys] at e
  | .dic _ _ _ :: _, _, e => by simp [strKeys] at e
  | .exc _ :: _, _, e => by simp [strKeys] at e
  | .scr _ :: _, _, e => by simp [strKeys] at e
theorem strKeys_map : ∀ ss : List Txt, strKeys (ss.map D.str) = some ss
  | [] => rfl
  | s :: ss => by
    show (strKeys (ss.map D.str)).map (s :: ·) = _
    rw [strKeys_map ss]; rfl
theorem leD_str (a b : Txt) : leD (.str a) (.str b) = decide (a ≤ b) := by
  show (!PySem.W.dataLt (.str (ofT b)) (.str (ofT a))) = _
  rw [PySem.W.dataLt_str, Bool.eq_iff_iff]
  simp only [ofT, Bool.not_eq_true', decide_eq_true_eq]
  exact ⟨fun h => List.not_lt.mp (of_decide_eq_false h), fun h => decide_eq_false (List.not_lt.mpr h)⟩
theorem leD_int (a b : Int) : leD (.int a) (.int b) = decide (a ≤ b) := by
  show (!PySem.W.dataLt (.int b) (.int a)) = _
  rw [PySem.W.dataLt_int, PySem.W.not_lt_int]
end Pu

/-! PuJ: sorted, isinstance, in, texts' methods. -/
namespace Pu
open PySem PySem.Spec PyProof.Rows L2

/-! ### sorted -/
theorem alike_of {ds : List D} (h : alikeB ds = true) : ∀ a ∈ ds, ∀ b ∈ ds, PySem.W.alike (toPy a) (toPy b) = true := fun a ha b hb =>
  List.all_eq_true.mp (List.all_eq_true.mp h a ha) b hb
def rSortG (K : PySem.W.Frag) : List V → Hp → VK → Prop := fun xs H Q => rSortedD K xs H Q ∨ ∃ (a : Addr) (kvs : List (Key × V)) (ks : List Str), xs = [.ref a] ∧ L2.Rd H a (.dK kvs) ∧ kvs.map (·.1) = ks.map Sum.inr ∧ ks.length < 64 ∧
  ∀ ys p, ys.Perm ks → PyProof.Rows.sortedS ys = true → H p = none → Q (.ref p) (upd H p (.lst (ys.map V.str)))
theorem call_sortedG {X : Cx} (hu : X.A.units + 64 < cLine) (hc : X.calm = true) : CallR X (.builtin "sorted") (rSortG X.K) := (cr_sortedDt hu).or (call_sortedD hc)
theorem rising_pw : ∀ {xs : List Str} {p : Str}, PyProof.Rows.risingS p xs = true → (p :: xs).Pairwise fun a b => a.cps.toList ≤ b.cps.toList
  | [], p, _ => List.pairwise_singleton _ _
  | x :: xs, p, h => by
    unfold PyProof.Rows.risingS at h
    rw [Bool.and_eq_true, PyProof.Rows.ltCps_eq] at h
    have h1 : p.cps.toList ≤ x.cps.toList := List.not_lt.mp (of_decide_eq_false (by simpa using h.1))
    have h2 := rising_pw h.2
    refine List.pairwise_cons.mpr ⟨fun y m => ?_, h2⟩
    rcases List.mem_cons.mp m with rfl | m
    · exact h1
    · exact List.le_trans h1 ((List.pairwise_cons.mp h2).1 y m)
theorem sortedS_pw {ys : List Str} (h : PyProof.Rows.sortedS ys = true) : ys.Pairwise fun a b => a.cps.toList ≤ b.cps.toList := by
  cases ys with
  | nil => exact .nil
  | cons x r => exact rising_pw h
theorem leD_str_trans (ss : List Txt) : ((ss.map D.str).mergeSort leD) = (ss.mergeSort fun a b => decide (a ≤ b)).map D.str :=
  (List.map_mergeSort (fun a _ b _ => (leD_str a b).symm)).symm
theorem pw_sort (ss : List Txt) : (ss.mergeSort fun a b => decide (a ≤ b)).Pairwise (fun a b => a ≤ b) := by
  have := List.pairwise_mergeSort (le := fun a b : Txt => decide (a ≤ b)) (fun a b c h1 h2 => decide_eq_true (List.le_trans (of_decide_eq_true h1) (of_decide_eq_true h2)))
    (fun a b => by rcases List.le_total a b with h | h <;> simp [h]) ss
  exact this.imp fun h => of_decide_eq_true h
theorem sort_unique {ys : List Str} {ss : List Txt} (hp : ys.Perm (ss.map ofT)) (hs : PyProof.Rows.sortedS ys = true) : ys = (ss.mergeSort fun a b => decide (a ≤ b)).map ofT := by
  have e : ys.map (fun y => y.cps.toList) = ss.mergeSort fun a b => decide (a ≤ b) := by
    refine List.Perm.eq_of_pairwise (le := fun a b : Txt => a ≤ b) (fun a b _ _ h1 h2 => List.le_antisymm h1 h2) (List.pairwise_map.mpr (sortedS_pw hs)) (pw_sort ss) ?_
    have h1 := hp.map (fun y : Str => y.cps.toList)
    rw [List.map_map] at h1
    have e2 : ss.map ((fun y : Str => y.cps.toList) ∘ ofT) = ss := by
      have : ((fun y : Str => y.cps.toList) ∘ ofT) = id := by
        funext x; simp [ofT]
      rw [this, List.map_id]
    rw [e2] at h1
    exact h1.trans (List.mergeSort_perm ss _).symm
  rw [← e, List.map_map]
  have : (ofT ∘ fun y : Str => y.cps.toList) = id := by
    funext x; exact ofT_cps x
  rw [this, List.map_id]
theorem p1_sorted {K : PySem.W.Frag} : P1 K (fun x H Q => rSortG K [x] H Q) sortedG 3 := by
  intro H Z d x Q zd hx q
  cases d with
  | lst ds =>
    obtain ⟨a, xs, ea, ha, ra⟩ := hx
    subst ea
    have q : Ro (ifR (sortOk ds) (.ok (.lst (sortD ds)))) _ _ := q
    unfold ifR at q
    by_cases hc : sortOk ds = true
    · rw [if_pos hc] at q
      unfold sortOk at hc
      simp only [Bool.and_eq_true] at hc
      obtain ⟨⟨⟨h1, h2⟩, h3⟩, h4⟩ := hc
      refine .inl ⟨a, xs.zip ds, rfl, ?_, fun p m => ?_, ?_, ?_, fun p m => ?_, ?_⟩
      · rw [zip_fst ra.len]
        exact .inl (.inl ha.2)
      · obtain ⟨i1, i2⟩ := mem_zip_is ra p m
        exact i1.dp (pyOkL_iff.mp h1 _ i2)
      · have e : (xs.zip ds).map (fun p => toPy p.2) = ds.map toPy := by
          have := zip_snd ra.len
          conv => rhs; rw [← this, List.map_map]
          rfl
        rw [e]
        intro a ha' b hb'
        obtain ⟨a, ma, rfl⟩ := List.mem_map.mp ha'
        obtain ⟨b, mb, rfl⟩ := List.mem_map.mp hb'
        exact alike_of h3 a ma b mb
      · have e : (xs.zip ds).map (fun p => toPy p.2) = ds.map toPy := by
          have := zip_snd ra.len
          conv => rhs; rw [← this, List.map_map]
          rfl
        rw [e]
        unfold sortB at h4
        rw [Bool.or_eq_true] at h4
        rcases h4 with h4 | h4
        · refine .inl fun z hz => ?_
          obtain ⟨b, mb, rfl⟩ := List.mem_map.mp hz
          have := List.all_eq_true.mp h4 b mb
          match b, this with
          | .tup (y :: r), _ => exact ⟨toPy y, toPyL r, rfl⟩
        · refine .inr fun z hz => ?_
          obtain ⟨b, mb, rfl⟩ := List.mem_map.mp hz
          have := List.all_eq_true.mp h4 b mb
          cases b <;> simp [toPy, noTupB] at this ⊢
      · exact depth_of (pyOkL_iff.mp h1 _ (mem_zip_is ra p m).2)
      · have hall : ∀ p ∈ (xs.zip ds).mergeSort (fun a b => leD a.2 b.2), Is K H Z p.2 p.1 ∧ p.2 ∈ ds := fun p m => mem_zip_is ra p ((List.mergeSort_perm _ _).mem_iff.mp m)
        have i := isL_of_pairs fun p m => (hall p m).1
        have e : ((xs.zip ds).mergeSort (fun a b => leD a.2 b.2)).map (·.2) = sortD ds := by
          unfold sortD
          rw [List.map_mergeSort (s := leD) (fun a _ b _ => rfl), zip_snd ra.len]
        rw [e] at i
        refine newFlat zd i ?_ q
        rw [← e]
        exact flat_of_mem h2 fun p m => (hall p m).2
    · rw [if_neg hc] at q
      exact q.elim
  | dic r ks vs =>
    obtain ⟨a, xs, u, ea, za, hu, dh, rv⟩ := hx
    match r, dh with
    | 0, ⟨kvs, eu, ek, ex, ok, _⟩ =>
      subst eu ea
      cases hk : strKeys ks with
      | none => simp only [sortedG, hk] at q; exact q.elim
      | some ss =>
        simp only [sortedG, hk] at q
        unfold ifR at q
        by_cases hl : ss.length < 64
        · rw [if_pos (decide_eq_true hl)] at q
          have e2 := strKeys_is hk
          have e3 : kvs.map (·.1) = (ss.map ofT).map Sum.inr := by
            rw [ek] at e2
            have h2 : ∀ (l : List (Key × V)) (ss : List Txt), l.map (fun p => kD p.1) = ss.map D.str → l.map (·.1) = (ss.map ofT).map Sum.inr := by
              intro l
              induction l with
              | nil => intro ss h; cases ss with
                | nil => rfl
                | cons _ _ => simp at h
              | cons p l ih =>
                intro ss h
                cases ss with
                | nil => simp at h
                | cons s ss =>
                  rw [List.map_cons, List.map_cons] at h
                  injection h with h3 h4
                  rw [List.map_cons, List.map_cons, List.map_cons, ih ss h4]
                  congr 1
                  cases hp : p.1 with
                  | inl i => rw [hp] at h3; cases h3
                  | inr x =>
                    rw [hp] at h3
                    injection h3 with h5
                    show Sum.inr x = Sum.inr (ofT s)
                    rw [← h5, ofT_cps]
            exact h2 kvs ss e2
          have okS : ∀ s ∈ ss, txOk s := by
            intro s m
            have m2 : (Sum.inr (ofT s) : Key) ∈ kvs.map (·.1) := by rw [e3]; exact List.mem_map_of_mem (List.mem_map_of_mem m)
            obtain ⟨p, mp, ep⟩ := List.mem_map.mp m2
            have := ok p mp
            rw [ep] at this
            intro c mc
            exact this c (by simpa [ofT] using mc)
          refine .inr ⟨a, kvs, ss.map ofT, rfl, hu, e3, by rw [List.length_map]; exact hl, fun ys p hp hs hn => ?_⟩
          have ey := sort_unique hp hs
          have q : ∀ v H' Z' F, Ext Z Z' H H' → Fr Z' H F → Vl K H' Z' 3 F (.lst (sortD ks)) v → Q v H' := q
          rw [e2, show sortD (ss.map D.str) = _ from leD_str_trans ss] at q
          subst ey
          have mS : ∀ s ∈ ss.mergeSort (fun a b => decide (a ≤ b)), txOk s := fun s m => okS s ((List.mergeSort_perm _ _).mem_iff.mp m)
          have hL : ∀ l : List Txt, (∀ s ∈ l, txOk s) → IsL K H Z (l.map D.str) ((l.map ofT).map V.str) ∧ flatL (l.map D.str) = true := by
            intro l
            induction l with
            | nil => intro _; exact ⟨rfl, rfl⟩
            | cons s l ih =>
              intro h
              obtain ⟨i1, i2⟩ := ih fun t m => h t (List.mem_cons_of_mem _ m)
              exact ⟨⟨_, _, rfl, ⟨rfl, h s List.mem_cons_self⟩, i1⟩, by simp [flatL, flat, i2]⟩
          obtain ⟨i1, i2⟩ := hL _ mS
          exact newFlat zd i1 i2 q p hn
        · rw [if_neg (by rw [decide_eq_false hl]; exact Bool.false_ne_true)] at q
          exact q.elim
    | 1, _ => exact q.elim
  | _ => exact q.elim

/-! ### isinstance(x, T), T built in -/
def tyNm (a : D) : Option String := match a with
  | .non => some "NoneType"
  | .bl _ => some "bool"
  | .int _ => some "int"
  | .str _ => some "str"
  | .tup _ => some "tuple"
  | .lst _ => some "list"
  | .scr _ => some "list"
  | .dic 0 _ _ => some "dict"
  | _ => none
def isTab (n T : String) : Bool := n == T || (n == "bool" && T == "int")
def tyNms : List String := ["NoneType", "bool", "int", "str", "tuple", "list", "dict"]
def tyAsk : List String := ["int", "str", "bool", "tuple", "list", "dict"]
theorem kit_tab : ∀ n ∈ tyNms, ∀ T ∈ tyAsk, kitB n T = some (isTab n T) := by decide +kernel
def isTy (T : String) (a : D) : R D := match tyNm a with
  | some n => okB (isTab n T)
  | none => .bad
theorem nox_isTy (T : String) (a : D) : Nox (isTy T a) := by
  unfold isTy
  split
  · exact nox_ok
  · exact nox_bad
theorem p1_isTy {K : PySem.W.Frag} {T : String} (hT : T ∈ tyAsk) : P1 K (fun x H Q => rIsi K [x, .ty T] H Q) (isTy T) 3 := by
  intro H Z d x Q zd hx q
  have fin : ∀ n, tyNm d = some n → n ∈ tyNms → TyX K H x (.type n) → rIsi K [x, .ty T] H Q := fun n hn hm ht => by
    unfold isTy at q
    rw [hn] at q
    exact ⟨x, .ty T, .type n, .type T, isTab n T, rfl, .ty T, ht, kit_ty (kit_tab n hm T hT), done zd q ow_bl⟩
  cases d with
  | non => have hx : x = _ := hx; subst hx; exact fin _ rfl (by decide) (.base .non)
  | bl b => have hx : x = _ := hx; subst hx; exact fin _ rfl (by decide) (.base (.bl b))
  | int i => have hx : x = _ := hx; subst hx; exact fin _ rfl (by decide) (.base (.int i))
  | str s => obtain ⟨hx, _⟩ := hx; subst hx; exact fin _ rfl (by decide) (.base (.str _))
  | tup ds => obtain ⟨a, xs, ea, ha, ra⟩ := hx; subst ea; exact fin _ rfl (by decide) (.base (.tup ha))
  | lst ds => obtain ⟨a, xs, ea, ha, ra⟩ := hx; subst ea; exact fin _ rfl (by decide) (.base (.lst ha.2))
  | scr ns =>
    obtain ⟨a, ea, ha⟩ := hx
    subst ea
    rcases ha with ⟨o, ha⟩ | ⟨o, its, n, h1, h2, _⟩
    · exact fin _ rfl (by decide) (.base (.frz ha))
    · exact fin _ rfl (by decide) (.kList h1 h2)
  | dic r ks vs =>
    obtain ⟨a, xs, u, ea, za, hu, dh, rv⟩ := hx
    subst ea
    match r, dh with
    | 0, ⟨kvs, eu, _⟩ =>
      subst eu
      rcases hu with hu | ⟨o, hu⟩
      · exact fin _ rfl (by decide) (.base (.dK hu))
      · exact fin _ rfl (by decide) (.fDict hu)
    | 1, _ => exact q.elim
  | exc _ => exact hx.elim
end Pu

/-! PuK: what is walked; what one owns is changed. -/
namespace Pu
open PySem PySem.Spec PyProof.Rows L2

theorem PI.or {X : Cx} {tg e : Expr} {t t' : TI} (h : PI X tg e t) (h' : PI X tg e t') : PI X tg e (fun σ H Q => t σ H Q ∨ t' σ H Q) := ⟨fun pins s σ H Q I q => q.elim (h.run pins s σ H Q I) (h'.run pins s σ H Q I)⟩
/-- the items of a datum -/
def iterG (a : D) : R (List D) := match a with
  | .lst ds => .ok ds
  | .tup ds => .ok ds
  | .str s => .ok (s.map fun c => .str [c])
  | .scr ns => .ok (ns.map D.int)
  | _ => .bad
def iAny (K : PySem.W.Frag) (te : TE) : TI := fun σ H Q => iList K te σ H Q ∨ iTup K te σ H Q ∨ iStr te σ H Q
theorem pi_any {X : Cx} {tg e : Expr} {te : TE} (h : PE X e te) : PI X tg e (iAny X.K te) := Pu.PI.or (pi_list h) (Pu.PI.or (pi_tup h) (pi_str h))
section
variable {K : PySem.W.Frag} {W : WX} {C : Cs} {ks : List Nat} {H : Hp} {Z : Zs}
theorem seq_one {K : PySem.W.Frag} {H : Hp} {a : Addr} {xs ys : List V} (h : H a = some (.lst xs)) (h2 : SqL K H a ys) (nk : K.lookup a = none ∨ True) : True := True.intro
theorem stream_list {ds : List D} {xs : List V} {a : Addr} (hz : Z a) (ha : H a = some (.lst xs)) (hi : IsL K H Z ds xs) : Stream K (Itl K a) ds Z H where
  go := fun i Z2 H2 hi2 e => ⟨xs, xs[i]'(by rw [hi.len]; exact hi2), .inl (.inl (e.kp.ls _ _ ha hz)), by simp [hi.len, hi2]⟩
  yld := fun i d Z2 H2 x H3 hd e zd y => by
    obtain ⟨rfl, y⟩ := y
    obtain ⟨v, h1, h2⟩ := hi.get hd
    have := y xs (.inl (.inl (e.kp.ls _ _ ha hz)))
    rw [h1] at this
    cases this
    exact ⟨Z2, Ext.refl zd, h2.keep e.kp e.zm⟩
  stop := fun Z2 H2 e => ⟨xs, .inl (.inl (e.kp.ls _ _ ha hz)), by rw [hi.len]; exact Nat.le_refl _⟩
theorem stream_tup {ds : List D} {xs : List V} {a : Addr} (ha : H a = some (.tup xs)) (hi : IsL K H Z ds xs) : Stream K (Itt K a) ds Z H where
  go := fun i Z2 H2 hi2 e => ⟨xs, xs[i]'(by rw [hi.len]; exact hi2), .inl (.inl (e.kp.tp _ _ ha)), by simp [hi.len, hi2]⟩
  yld := fun i d Z2 H2 x H3 hd e zd y => by
    obtain ⟨rfl, y⟩ := y
    obtain ⟨v, h1, h2⟩ := hi.get hd
    have := y xs (.inl (.inl (e.kp.tp _ _ ha)))
    rw [h1] at this
    cases this
    exact ⟨Z2, Ext.refl zd, h2.keep e.kp e.zm⟩
  stop := fun Z2 H2 e => ⟨xs, .inl (.inl (e.kp.tp _ _ ha)), by rw [hi.len]; exact Nat.le_refl _⟩
theorem stream_str {s : Txt} (ok : txOk s) : Stream K (Its (ofT s)) (s.map fun c => D.str [c]) Z H where
  go := fun i Z2 H2 hi2 e => by
    show i < (ofT s).cps.size
    simpa [ofT] using hi2
  yld := fun i d Z2 H2 x H3 hd e zd y => by
    obtain ⟨rfl, c, hc, rfl⟩ := y
    rw [List.getElem?_map] at hd
    have hc : s[i]? = some c := by simpa [ofT] using hc
    rw [hc] at hd
    cases hd
    exact ⟨Z2, Ext.refl zd, rfl, fun c' m => by rw [List.mem_singleton.mp m]; exact ok c (List.mem_of_getElem? hc)⟩
  stop := fun Z2 H2 e => by
    show (ofT s).cps.size ≤ (s.map fun c => D.str [c]).length
    simp [ofT]
theorem stream_scr {ns : List Int} {a : Addr} (ha : Scr K H a (ns.map V.int)) : Stream K (Itl K a) (ns.map D.int) Z H where
  go := fun i Z2 H2 hi2 e => by
    have hi2 : i < ns.length := by simpa using hi2
    exact ⟨ns.map V.int, .int ns[i], (e.kp.scr ha).sq, by simp [hi2]⟩
  yld := fun i d Z2 H2 x H3 hd e zd y => by
    obtain ⟨rfl, y⟩ := y
    have := y _ (e.kp.scr ha).sq
    rw [List.getElem?_map] at hd this
    cases hn : ns[i]? with
    | none => rw [hn] at hd; cases hd
    | some n =>
      rw [hn] at hd this
      cases hd
      cases this
      exact ⟨Z2, Ext.refl zd, rfl⟩
  stop := fun Z2 H2 e => ⟨ns.map V.int, (e.kp.scr ha).sq, by simp⟩
theorem SW.any {te : TE} {f : Env → R D} {k : Nat} (hk : k ≠ 0) (h : SE K W C ks te f k) : SW K W C ks (iAny K te) (fun e => f e >>= iterG) := fun H0 Zc env σ H Z Fs Q s q => by
  have h1 := h.to1 hk
  cases hf : f env with
  | bad =>
    have q : Ro (f env >>= iterG) _ _ := q
    rw [hf] at q; exact q.elim
  | ex c =>
    refine .inl (h1 H0 Zc env σ H Z Fs _ s ?_)
    rw [hf]
    have q : Ro (f env >>= iterG) _ _ := q
    rw [hf] at q
    exact q
  | ok d =>
    have q : Ro (f env >>= iterG) _ _ := q
    rw [hf] at q
    cases d with
    | lst ds =>
      refine .inl (h1 H0 Zc env σ H Z Fs _ s ?_)
      rw [hf]
      intro v H1 Z1 F x fr vl
      obtain ⟨_, a, xs, ea, ha, hi⟩ := vl
      exact ⟨a, ea, ⟨xs, .inl (.inl ha.2)⟩, q _ H1 Z1 x (stream_list ha.1 ha.2 hi)⟩
    | tup ds =>
      refine .inr (.inl (h1 H0 Zc env σ H Z Fs _ s ?_))
      rw [hf]
      intro v H1 Z1 F x fr vl
      obtain ⟨_, a, xs, ea, ha, hi⟩ := vl
      exact ⟨a, ea, ⟨xs, .inl (.inl ha)⟩, q _ H1 Z1 x (stream_tup ha hi)⟩
    | str s2 =>
      refine .inr (.inr (h1 H0 Zc env σ H Z Fs _ s ?_))
      rw [hf]
      intro v H1 Z1 F x fr vl
      obtain ⟨_, ev, ok⟩ := vl
      exact ⟨_, ev, q _ H1 Z1 x (stream_str ok)⟩
    | scr ns =>
      refine .inl (h1 H0 Zc env σ H Z Fs _ s ?_)
      rw [hf]
      intro v H1 Z1 F x fr vl
      obtain ⟨_, a, ea, ha⟩ := vl
      exact ⟨a, ea, ⟨_, ha.sq⟩, q _ H1 Z1 x (stream_scr ha)⟩
    | _ => exact q.elim

/-- the items have no lists, no dicts -/
def flatItems (ds : List D) : R (List D) := if flatL ds = true then .ok ds else .bad
theorem isL_any {Z' : Zs} {ds : List D} {xs : List V} (h : IsL K H Z ds xs) (f : flatL ds = true) : IsL K H Z' ds xs := (h.flat f).is (fun _ m => by simp at m)
/-- what is read alone is walked where nothing changes -/
theorem SW2.any {te : TE} {f : Env → R D} {k : Nat} (h : SE K W C ks te f k) : SW2 K W C ks (iAny K te) (fun e => f e >>= iterG >>= flatItems) := fun H0 Zc env σ H Z Fs Q s q => by
  have h1 := h.read
  have fin : ∀ {ds : List D} {P : List D → Prop} {E : Nat → Prop}, Ro (flatItems ds) P E → flatL ds = true ∧ P ds := fun {ds P E} q => by
    unfold flatItems at q
    by_cases hf : flatL ds = true
    · rw [if_pos hf] at q; exact ⟨hf, q⟩
    · rw [if_neg hf] at q; exact q.elim
  have q : Ro (f env >>= iterG >>= flatItems) _ _ := q
  cases hf : f env with
  | bad => rw [hf] at q; exact q.elim
  | ex c =>
    refine .inl (h1 H0 Zc env σ H Z Fs _ s ?_)
    rw [hf]
    rw [hf] at q
    exact q
  | ok d =>
    rw [hf] at q
    cases d with
    | lst ds =>
      obtain ⟨ff, q⟩ := fin q
      refine .inl (h1 H0 Zc env σ H Z Fs _ s ?_)
      rw [hf]
      intro v H1 Z1 F x fr vl
      obtain ⟨_, a, xs, ea, ha, hi⟩ := vl
      refine ⟨a, ea, ⟨xs, .inl (.inl ha.2)⟩, q _ H1 Z1 x ⟨fun i Z2 H2 hi2 e => ⟨xs, xs[i]'(by rw [hi.len]; exact hi2), .inl (.inl (e.same _ _ ha.2)), by simp [hi.len, hi2]⟩, fun i d Z2 H2 x H3 hd e zd y => ?_, fun Z2 H2 e => ⟨xs, .inl (.inl (e.same _ _ ha.2)), by rw [hi.len]; exact Nat.le_refl _⟩⟩⟩
      obtain ⟨rfl, y⟩ := y
      obtain ⟨v, h1, h2⟩ := (isL_any (Z' := Z1) hi ff).get hd
      have := y xs (.inl (.inl (e.same _ _ ha.2)))
      rw [h1] at this
      cases this
      exact ⟨Z2, Ext.refl zd, h2.keep e.keep e.zm⟩
    | tup ds =>
      obtain ⟨ff, q⟩ := fin q
      refine .inr (.inl (h1 H0 Zc env σ H Z Fs _ s ?_))
      rw [hf]
      intro v H1 Z1 F x fr vl
      obtain ⟨_, a, xs, ea, ha, hi⟩ := vl
      exact ⟨a, ea, ⟨xs, .inl (.inl ha)⟩, q _ H1 Z1 x (stream_tup ha (isL_any hi ff)).two⟩
    | str s2 =>
      obtain ⟨ff, q⟩ := fin q
      refine .inr (.inr (h1 H0 Zc env σ H Z Fs _ s ?_))
      rw [hf]
      intro v H1 Z1 F x fr vl
      obtain ⟨_, ev, ok⟩ := vl
      exact ⟨_, ev, q _ H1 Z1 x (stream_str ok).two⟩
    | scr ns =>
      obtain ⟨ff, q⟩ := fin q
      refine .inl (h1 H0 Zc env σ H Z Fs _ s ?_)
      rw [hf]
      intro v H1 Z1 F x fr vl
      obtain ⟨_, a, ea, ha⟩ := vl
      exact ⟨a, ea, ⟨_, ha.sq⟩, q _ H1 Z1 x (stream_scr ha).two⟩
    | _ => exact q.elim

/-! ### range -/
def upFrom (lo : Int) (n : Nat) : List D := (List.range n).map fun i => D.int (lo + (i : Nat))
theorem stream_range {lo : Int} {n : Nat} : Stream K (Itr lo n) (upFrom lo n) Z H where
  go := fun i Z2 H2 hi2 e => by
    show i < n
    simpa [upFrom] using hi2
  yld := fun i d Z2 H2 x H3 hd e zd y => by
    obtain ⟨rfl, rfl⟩ := y
    unfold upFrom at hd
    rw [List.getElem?_map] at hd
    cases hr : (List.range n)[i]? with
    | none => rw [hr] at hd; cases hd
    | some j =>
      rw [hr] at hd
      have e : j = i := by
        obtain ⟨h1, h2⟩ := List.getElem?_eq_some_iff.mp hr
        simpa using h2.symm
      subst e
      cases hd
      exact ⟨Z2, Ext.refl zd, rfl⟩
  stop := fun Z2 H2 e => by
    show n ≤ (upFrom lo n).length
    simp [upFrom]
def big62 (i : Int) : Bool := decide (-(2 ^ 62) ≤ i ∧ i < 2 ^ 62)
def range1 (ds : List D) : R (List D) := match ds with
  | [.int j] => if big62 j = true then .ok (upFrom 0 j.toNat) else .bad
  | _ => .bad
def range2 (ds : List D) : R (List D) := match ds with
  | [.int i, .int j] => if (big62 i && big62 j) = true then .ok (upFrom i (j - i).toNat) else .bad
  | _ => .bad
/-- by a step of -1 -/
def downFrom (lo : Int) (n : Nat) : List D := (List.range n).map fun i => D.int (lo + (i : Nat) * (-1))
def range3 (ds : List D) : R (List D) := match ds with
  | [.int i, .int j, .int (-1)] => if (big62 i && big62 j) = true then .ok (downFrom i (i - j).toNat) else .bad
  | _ => .bad
theorem SW.range1 {ta : TA} {f : Env → R (List D)} {k : Nat} (h : SA K W C ks ta f k) : SW K W C ks (iRng1 ta) (fun e => f e >>= range1) := fun H0 Zc env σ H Z Fs Q s q => by
  refine h.read H0 Zc env σ H Z Fs _ s (q.bind.mono (fun ds q vs H1 Z1 F x fr vl => ?_) fun c q => q)
  obtain ⟨_, vl⟩ := vl
  by_cases hd : ∃ j, ds = [.int j]
  · obtain ⟨j, rfl⟩ := hd
    obtain ⟨y, e, h1⟩ := isL_one vl
    have h1 : y = .int j := h1
    subst h1 e
    have q : Ro (if big62 j = true then R.ok (upFrom 0 j.toNat) else .bad) _ _ := q
    by_cases hb : big62 j = true
    · rw [if_pos hb] at q
      have hb := of_decide_eq_true hb
      exact ⟨j, rfl, hb.1, hb.2, q _ H1 Z1 x stream_range⟩
    · rw [if_neg hb] at q
      exact q.elim
  · have e : Pu.range1 ds = .bad := by
      unfold Pu.range1
      split
      · rename_i j; exact absurd ⟨j, rfl⟩ hd
      · rfl
    rw [e] at q
    exact q.elim
theorem SW.range2 {ta : TA} {f : Env → R (List D)} {k : Nat} (h : SA K W C ks ta f k) : SW K W C ks (iRng2 ta) (fun e => f e >>= range2) := fun H0 Zc env σ H Z Fs Q s q => by
  refine h.read H0 Zc env σ H Z Fs _ s (q.bind.mono (fun ds q vs H1 Z1 F x fr vl => ?_) fun c q => q)
  obtain ⟨_, vl⟩ := vl
  by_cases hd : ∃ i j, ds = [.int i, .int j]
  · obtain ⟨i, j, rfl⟩ := hd
    obtain ⟨y, z, e, h1, h2⟩ := isL_two vl
    have h1 : y = .int i := h1
    have h2 : z = .int j := h2
    subst h1 h2 e
    have q : Ro (if (big62 i && big62 j) = true then R.ok (upFrom i (j - i).toNat) else .bad) _ _ := q
    by_cases hb : (big62 i && big62 j) = true
    · rw [if_pos hb] at q
      rw [Bool.and_eq_true] at hb
      have hi := of_decide_eq_true hb.1
      have hj := of_decide_eq_true hb.2
      exact ⟨i, j, rfl, ⟨hi.1, hi.2, hj.1, hj.2⟩, q _ H1 Z1 x stream_range⟩
    · rw [if_neg hb] at q
      exact q.elim
  · have e : Pu.range2 ds = .bad := by
      unfold Pu.range2
      split
      · rename_i i j; exact absurd ⟨i, j, rfl⟩ hd
      · rfl
    rw [e] at q
    exact q.elim
theorem stream_down {lo : Int} {n : Nat} : Stream K (Itc lo (-1) n) (downFrom lo n) Z H where
  go := fun i Z2 H2 hi2 e => by
    show i < n
    simpa [downFrom] using hi2
  yld := fun i d Z2 H2 x H3 hd e zd y => by
    obtain ⟨rfl, rfl⟩ := y
    unfold downFrom at hd
    rw [List.getElem?_map] at hd
    cases hr : (List.range n)[i]? with
    | none => rw [hr] at hd; cases hd
    | some j =>
      rw [hr] at hd
      have e : j = i := by
        obtain ⟨h1, h2⟩ := List.getElem?_eq_some_iff.mp hr
        simpa using h2.symm
      subst e
      cases hd
      exact ⟨Z2, Ext.refl zd, rfl⟩
  stop := fun Z2 H2 e => by
    show n ≤ (downFrom lo n).length
    simp [downFrom]
theorem SW.range3 {ta : TA} {f : Env → R (List D)} {k : Nat} (h : SA K W C ks ta f k) : SW K W C ks (iRng3 ta) (fun e => f e >>= range3) := fun H0 Zc env σ H Z Fs Q s q => by
  refine h.read H0 Zc env σ H Z Fs _ s (q.bind.mono (fun ds q vs H1 Z1 F x fr vl => ?_) fun c q => q)
  obtain ⟨_, vl⟩ := vl
  by_cases hd : ∃ i j, ds = [.int i, .int j, .int (-1)]
  · obtain ⟨i, j, rfl⟩ := hd
    obtain ⟨y, r, e, h1, z, r2, e2, h2, w, r3, e3, h3, e4⟩ := vl
    have h1 : y = .int i := h1
    have h2 : z = .int j := h2
    have h3 : w = .int (-1) := h3
    have e4 : r3 = [] := e4
    subst h1 h2 h3 e4 e3 e2 e
    have q : Ro (if (big62 i && big62 j) = true then R.ok (downFrom i (i - j).toNat) else .bad) _ _ := q
    by_cases hb : (big62 i && big62 j) = true
    · rw [if_pos hb] at q
      rw [Bool.and_eq_true] at hb
      have hi := of_decide_eq_true hb.1
      have hj := of_decide_eq_true hb.2
      exact ⟨i, j, -1, _, rfl, RgC.neg hi.1 hi.2 hj.1 hj.2, q _ H1 Z1 x stream_down⟩
    · rw [if_neg hb] at q
      exact q.elim
  · have e : Pu.range3 ds = .bad := by
      unfold Pu.range3
      split
      · rename_i i j; exact absurd ⟨i, j, rfl⟩ hd
      · rfl
    rw [e] at q
    exact q.elim

/-! ### enumerate(xs), a list -/
def numbered (k : Int) : List D → List D
  | [] => []
  | d :: ds => .tup [.int k, d] :: numbered (k + 1) ds
theorem numbered_len : ∀ (k : Int) (ds : List D), (numbered k ds).length = ds.length
  | _, [] => rfl
  | k, d :: ds => by simp [numbered, numbered_len (k + 1) ds]
theorem numbered_get : ∀ (k : Int) (ds : List D) (i : Nat), (numbered k ds)[i]? = ds[i]?.map fun d => D.tup [.int (k + i), d]
  | _, [], _ => by simp [numbered]
  | k, d :: ds, 0 => by simp [numbered]
  | k, d :: ds, i + 1 => by
    have := numbered_get (k + 1) ds i
    simp only [numbered, List.getElem?_cons_succ, this]
    congr 1
    funext e
    congr 3
    push_cast
    omega
theorem stream_enum {ds : List D} {xs : List V} {a : Addr} (hz : Z a) (ha : H a = some (.lst xs)) (hi : IsL K H Z ds xs) : Stream K (Ite K a) (numbered 0 ds) Z H where
  go := fun i Z2 H2 hi2 e => by
    rw [numbered_len] at hi2
    exact ⟨xs, xs[i]'(by rw [hi.len]; exact hi2), .inl (.inl (e.kp.ls _ _ ha hz)), by simp [hi.len, hi2]⟩
  yld := fun i d Z2 H2 x H3 hd e zd y => by
    obtain ⟨T, y1, rfl, hT, rfl, y⟩ := y
    rw [numbered_get] at hd
    cases hn : ds[i]? with
    | none => rw [hn] at hd; cases hd
    | some d' =>
      rw [hn] at hd
      cases hd
      obtain ⟨v, h1, h2⟩ := hi.get hn
      have := y xs (.inl (.inl (e.kp.ls _ _ ha hz)))
      rw [h1] at this
      have this := Option.some.inj this
      subst this
      have xn := Ext.new (o := .tup [.int (i : Nat), v]) zd hT
      refine ⟨Z2, xn, T, _, rfl, upd_same, .int (i : Nat), _, rfl, ?_, v, [], rfl, (h2.keep e.kp e.zm).keep xn.keep xn.zm, rfl⟩
      show V.int _ = V.int _
      congr 1
      omega
  stop := fun Z2 H2 e => ⟨xs, .inl (.inl (e.kp.ls _ _ ha hz)), by rw [numbered_len, hi.len]; exact Nat.le_refl _⟩
def enumL (ds : List D) : R (List D) := match ds with
  | [.lst ds] => .ok (numbered 0 ds)
  | _ => .bad
theorem SW.enumL {ta : TA} {f : Env → R (List D)} {k : Nat} (hk : k ≠ 0) (h : SA K W C ks ta f k) : SW K W C ks (iEnum K ta) (fun e => f e >>= enumL) := fun H0 Zc env σ H Z Fs Q s q => by
  have h1 := h.less
  unfold lessK at h1
  rw [if_neg hk] at h1
  refine h1 H0 Zc env σ H Z Fs _ s (q.bind.mono (fun ds q vs H1 Z1 F x fr vl => ?_) fun c q => q)
  obtain ⟨_, vl⟩ := vl
  by_cases hd : ∃ l, ds = [.lst l]
  · obtain ⟨l, rfl⟩ := hd
    obtain ⟨y, e, a, xs, ea, ha, hi⟩ := isL_one vl
    subst e ea
    exact ⟨a, xs, rfl, .inl (.inl ha.2), q _ H1 Z1 x (stream_enum ha.1 ha.2 hi)⟩
  · have e : Pu.enumL ds = .bad := by
      unfold Pu.enumL
      split
      · rename_i l; exact absurd ⟨l, rfl⟩ hd
      · rfl
    rw [e] at q
    exact q.elim
end
end Pu

/-! PuL: a slot's own list or dict is changed. -/
namespace Pu
open PySem PySem.Spec PyProof.Rows L2

section
variable {K : PySem.W.Frag} {H0 : Hp} {Zc : Zs} {ks : List Nat} {env : Env} {σ : St} {H : Hp} {Z : Zs} {Fs : Nat → List Addr}
theorem set_self {α : Type} {l : List α} {i : Nat} {a : α} (h : l[i]? = some a) : l.set i a = l := by
  apply List.ext_getElem?
  intro j
  rw [List.getElem?_set]
  by_cases e : i = j
  · subst e
    rw [if_pos rfl, h, if_pos (List.getElem?_eq_some_iff.mp h).1]
  · rw [if_neg e]
theorem ks_self {ks : List Nat} {i : Nat} (hi : i < ks.length) : ks.set i (ks.getD i 1) = ks :=
  set_self (by rw [List.getD_eq_getElem?_getD, List.getElem?_eq_getElem hi]; rfl)
theorem SI.openL (s : SI K H0 Zc ks env σ H Z Fs) {i : Nat} {ds : List D} (hk : 2 ≤ ks.getD i 1) (e : env[i]? = some (some (.lst ds))) :
    ∃ l xs F, σ[i]? = some (some (.ref l)) ∧ H l = some (.lst xs) ∧ Fs i = l :: F ∧ VlL K H Z (ks.getD i 1) F ds xs := by
  obtain ⟨v, h1, _, h3⟩ := s.slot i _ e
  match hn : ks.getD i 1, hk, h3 with
  | 2, _, h3 =>
    obtain ⟨a, xs, ev, ef, ha, r⟩ := h3
    subst ev
    exact ⟨a, xs, [], h1, ha, ef, rfl, r⟩
  | n + 3, _, h3 =>
    obtain ⟨a, xs, F', ev, ef, ha, r⟩ := h3
    subst ev
    exact ⟨a, xs, F', h1, ha, ef, r⟩
theorem VlL.write {k : Nat} {F : List Addr} {ds : List D} {xs : List V} {a : Addr} {o : HO} (hk : 1 ≤ k) (h : VlL K H Z k F ds xs) (hz : ¬ Z a) (nt : Soft H a) (hf : a ∉ F) : VlL K (upd H a o) Z k F ds xs := by
  match k, h with
  | 1, h => exact ⟨h.1, h.2.keep (kp_write hz nt) (fun _ z => z)⟩
  | 2, h => exact ⟨h.1, h.2.keep (kp_write hz nt) (fun _ z => z)⟩
  | n + 3, h => exact OwL.keep (kp_write hz nt) h fun b m => upd_ne fun z => hf (by rw [← z]; exact m)
theorem SI.closeL (s : SI K H0 Zc ks env σ H Z Fs) {i : Nat} {l : Addr} {xs xs' : List V} {F F' : List Addr} {ds' : List D} (hi : i < ks.length) (hk : 2 ≤ ks.getD i 1) (h1 : σ[i]? = some (some (.ref l))) (hl : H l = some (.lst xs)) (hF : Fs i = l :: F)
    (vl : VlL K H Z (ks.getD i 1) F' ds' xs') (nd : F'.Nodup) (nl : l ∉ F') (nw : ∀ b ∈ F', ¬ Z b ∧ H0 b = none ∧ ∀ j, j ≠ i → b ∉ Fs j) :
    SI K H0 Zc ks (env.set i (some (.lst ds'))) σ (upd H l (.lst xs')) Z (setF Fs i (l :: F')) := by
  have ml : l ∈ Fs i := by rw [hF]; exact List.mem_cons_self
  have o := s.own i l ml
  have w := vl.write (o := .lst xs') (by omega) o.1 (soft_lst hl) nl
  have vv : Vl K (upd H l (.lst xs')) Z (ks.getD i 1) (l :: F') (.lst ds') (.ref l) := by
    match hn : ks.getD i 1, hk, w with
    | 2, _, w => exact ⟨l, xs', rfl, by rw [w.1], upd_same, w.2⟩
    | n + 3, _, w => exact ⟨l, xs', F', rfl, rfl, upd_same, w⟩
  have r := s.writeOwn (o := .lst xs') hi (by omega : 1 ≤ ks.getD i 1) ml (soft_lst hl) h1 vv (List.nodup_cons.mpr ⟨nl, nd⟩) (fun b m => by
    rcases List.mem_cons.mp m with rfl | m
    · exact ⟨o.1, o.2.1, fun j h m2 => h (s.disj j i b m2 ml)⟩
    · exact nw b m)
  rw [ks_self hi] at r
  exact r
end

/-- what a method does to a list that is one's own -/
def MutS (K : PySem.W.Frag) (r : V → List V → Hp → VK → Prop) (g : List D → List D → R (List D)) : Prop :=
  ∀ (H : Hp) (Z : Zs) (k : Nat) (F Fa : List Addr) (l : Addr) (xs vs : List V) (ds as ds' : List D) (Q : VK), k = 2 ∨ k = 3 → H l = some (.lst xs) → VlL K H Z k F ds xs → VlL K H Z (if k = 2 then 1 else 3) Fa as vs →
    (F ++ Fa).Nodup → g ds as = .ok ds' → (∀ y xs' F', VlL K H Z k F' ds' xs' → F'.Nodup → (∀ b ∈ F', b ∈ F ∨ b ∈ Fa) → Q y (upd H l (.lst xs'))) → r (.ref l) vs H Q
def lstAt (i : Nat) (e : Env) : R (List D) := match e[i]? with
  | some (some (.lst ds)) => .ok ds
  | _ => .bad
theorem lstAt_ok {i : Nat} {e : Env} {ds : List D} (h : lstAt i e = .ok ds) : e[i]? = some (some (.lst ds)) := by
  unfold lstAt at h
  split at h
  · rename_i ds' h2; cases h; exact h2
  · cases h
theorem lstAt_nox {i : Nat} {e : Env} {c : Nat} (h : lstAt i e = .ex c) : False := by
  unfold lstAt at h
  split at h <;> cases h
def setL (i : Nat) (ds : List D) (e : Env) : Env := e.set i (some (.lst ds))
section
variable {K : PySem.W.Frag} {W : WX} {C : Cs} {ks kl kx : List Nat} {kr ka : Nat}
def mutOk (k ka : Nat) : Bool := (k == 2 && ka != 0) || (k == 3 && ka == 3)
theorem SS.mutL {i : Nat} {ta : TA} {fa : Env → R (List D)} {r : V → List V → Hp → VK → Prop} {g : List D → List D → R (List D)} (hx : leK kx ks = true) (hm : MutS K r g) (ng : ∀ ds as, Nox (g ds as)) (hi : i < ks.length) (hk : mutOk (ks.getD i 1) ka = true)
    (h : SA K W C ks ta fa ka) : SS K W C ks (tDrop (tBM K "list" r (tVar i) ta)) (fun e => liftR e (lstAt i e >>= fun ds => fa e >>= fun as => g ds as) fun ds' => .nx (setL i ds' e)) ks kl kx kr := fun H0 Zc env σ H Z Fs D s q => by
  have hk' : (ks.getD i 1 = 2 ∧ ka ≠ 0) ∨ (ks.getD i 1 = 3 ∧ ka = 3) := by simpa [mutOk] using hk
  have q : So (liftR env (lstAt i env >>= fun ds => fa env >>= fun as => g ds as) fun ds' => .nx (setL i ds' env)) _ _ _ _ _ := q
  cases hl : lstAt i env with
  | bad => rw [hl] at q; exact q.elim
  | ex c => exact (lstAt_nox hl).elim
  | ok ds =>
    rw [hl] at q
    have ei := lstAt_ok hl
    obtain ⟨l, xs, F, h1, h2, h3, h4⟩ := s.openL (by omega) ei
    refine ⟨_, h1, .inl ⟨rfl, xs, .inl (.inl h2)⟩, ?_⟩
    have ha : SA K W C ks ta fa (if ks.getD i 1 = 2 then 1 else 3) := by
      rcases hk' with ⟨e1, e2⟩ | ⟨e1, e2⟩
      · rw [e1, if_pos rfl]
        have := h.less
        unfold lessK at this
        rw [if_neg e2] at this
        exact this
      · rw [e1, if_neg (by decide)]
        subst e2
        exact h
    have q : So (liftR env (fa env >>= fun as => g ds as) fun ds' => .nx (setL i ds' env)) _ _ _ _ _ := q
    refine ha H0 Zc env σ H Z Fs _ s (q.lift.bind.mono (fun as q vs H1 Z1 Fa x fr vl => ?_) fun c q H1 Z1 x => ?_)
    · cases hg : g ds as with
      | bad => rw [hg] at q; exact q.elim
      | ex c => exact (ng ds as c hg).elim
      | ok ds' =>
        rw [hg] at q
        have s1 := s.go x
        obtain ⟨l', xs2, F2, h1', h2', h3', h4'⟩ := s1.openL (by omega) ei
        rw [h1] at h1'
        cases h1'
        rw [h3] at h3'
        cases h3'
        have nd : (F ++ Fa).Nodup := by
          refine List.nodup_append.mpr ⟨?_, fr.nd, fun a m b m' eab => ?_⟩
          · have := s.nd i
            rw [h3] at this
            exact (List.nodup_cons.mp this).2
          · subst eab
            exact (s.own i a (by rw [h3]; exact List.mem_cons_of_mem _ m)).2.2 (fr.nw a m').1
        refine hm H1 Z1 (ks.getD i 1) F Fa l xs2 vs ds as ds' _ (by omega) h2' h4' vl nd hg fun y xs' F' vl' nd' sub => ?_
        have lF : l ∉ F := by
          have := s.nd i
          rw [h3] at this
          exact (List.nodup_cons.mp this).1
        have lFa : l ∉ Fa := fun m => (s.own i l (by rw [h3]; exact List.mem_cons_self)).2.2 (fr.nw l m).1
        have s2 := s1.closeL hi (by omega) h1 h2' h3 vl' nd' (fun m => (sub l m).elim lF lFa) (fun b m => by
          rcases sub b m with m | m
          · have mb : b ∈ Fs i := by rw [h3]; exact List.mem_cons_of_mem _ m
            exact ⟨(s1.own i b mb).1, (s1.own i b mb).2.1, fun j h m2 => h (s1.disj j i b m2 mb)⟩
          · exact ⟨(fr.nw b m).2, s.ext.same.free (fr.nw b m).1, fun j _ m2 => (s.own j b m2).2.2 (fr.nw b m).1⟩)
        have ol := s1.own i l (by rw [h3]; exact List.mem_cons_self)
        exact q _ _ _ _ s2 (x.ev.trans ⟨fun _ z => z, kp_write ol.1 (soft_lst h2')⟩)
    · obtain ⟨Z3, Fs3, s3, e3, _⟩ := (s.go x).weak hx
      exact q _ _ _ _ s3
end

/-! ### the methods -/
def one1 (f : D → R (List D)) (as : List D) : R (List D) := match as with
  | [a] => f a
  | _ => .bad
def appG (ds as : List D) : R (List D) := match as with
  | [a] => if ds.length < sizeLine then .ok (ds ++ [a]) else .bad
  | _ => .bad
theorem nox_app (ds as : List D) : Nox (appG ds as) := by
  unfold appG
  repeat' split
  all_goals first | exact nox_ok | exact nox_bad
section
variable {K : PySem.W.Frag} {H : Hp} {Z : Zs}
theorem VlL.app {k : Nat} {F Fa : List Addr} {ds as : List D} {xs vs : List V} (hk : k = 2 ∨ k = 3) (h : VlL K H Z k F ds xs) (h2 : VlL K H Z (if k = 2 then 1 else 3) Fa as vs) : VlL K H Z k (F ++ Fa) (ds ++ as) (xs ++ vs) := by
  rcases hk with rfl | rfl
  · obtain ⟨rfl, h⟩ := h
    obtain ⟨rfl, h2⟩ := h2
    exact ⟨rfl, h.app h2⟩
  · exact OwL.app h h2
theorem VlL.len {k : Nat} {F : List Addr} {ds : List D} {xs : List V} (h : VlL K H Z k F ds xs) : xs.length = ds.length := by
  match k, h with
  | 0, h => exact h.2.len
  | 1, h => exact h.2.len
  | 2, h => exact h.2.len
  | n + 3, h => exact OwL.len h
theorem mut_append : MutS K rAppend appG := fun H Z k F Fa l xs vs ds as ds' Q hk hl vl va nd hg q => by
  unfold appG at hg
  split at hg
  · rename_i a
    have e1 := va.len
    obtain ⟨y, rfl⟩ : ∃ y, vs = [y] := by
      match vs, e1 with
      | [y], _ => exact ⟨y, rfl⟩
    split at hg
    · rename_i hz
      cases hg
      refine ⟨l, xs, y, rfl, rfl, hl, by rw [vl.len]; exact hz, q _ _ (F ++ Fa) (vl.app hk va) nd fun b m => List.mem_append.mp m⟩
    · cases hg
  · cases hg
def clrG (ds as : List D) : R (List D) := match as with
  | [] => .ok []
  | _ => .bad
theorem nox_clr (ds as : List D) : Nox (clrG ds as) := by
  unfold clrG
  split
  all_goals first | exact nox_ok | exact nox_bad
theorem VlL.nil {k : Nat} : VlL K H Z k [] [] [] := by
  match k with
  | 0 => exact ⟨rfl, rfl⟩
  | 1 => exact ⟨rfl, rfl⟩
  | 2 => exact ⟨rfl, rfl⟩
  | n + 3 => exact ⟨rfl, rfl⟩
theorem mut_clear : MutS K rClear clrG := fun H Z k F Fa l xs vs ds as ds' Q hk hl vl va nd hg q => by
  unfold clrG at hg
  split at hg
  · cases hg
    have e1 := va.len
    obtain rfl : vs = [] := List.eq_nil_of_length_eq_zero e1
    exact ⟨l, xs, rfl, rfl, hl, q _ _ [] VlL.nil List.nodup_nil (fun b m => by simp at m)⟩
  · cases hg
/-- extended by a list -/
def extG (ds as : List D) : R (List D) := match as with
  | [.lst es] => if ds.length + es.length ≤ sizeLine then .ok (ds ++ es) else .bad
  | _ => .bad
theorem nox_ext (ds as : List D) : Nox (extG ds as) := by
  unfold extG
  repeat' split
  all_goals first | exact nox_ok | exact nox_bad
theorem mut_extend : MutS K rExtend extG := fun H Z k F Fa l xs vs ds as ds' Q hk hl vl va nd hg q => by
  unfold extG at hg
  split at hg
  · rename_i es
    split at hg
    · rename_i hz
      cases hg
      rcases hk with rfl | rfl
      · obtain ⟨rfl, y, r, rfl, ⟨b, zs, rfl, hb, rb⟩, rfl⟩ := va
        have va2 : VlL K H Z 1 [] es zs := ⟨rfl, rb⟩
        refine ⟨l, b, xs, zs, rfl, rfl, hl, hb.2, by rw [vl.len, rb.len]; exact hz, q _ _ (F ++ []) (vl.app (.inl rfl) va2) nd fun b m => List.mem_append.mp m⟩
      · obtain ⟨y, r, F1, F2, rfl, rfl, ⟨b, zs, F3, rfl, rfl, hb, rb⟩, rfl, rfl⟩ := va
        have nd2 : (F ++ F3).Nodup := by
          rw [List.append_nil] at nd
          obtain ⟨n1, n2, n3⟩ := List.nodup_append.mp nd
          exact List.nodup_append.mpr ⟨n1, (List.nodup_cons.mp n2).2, fun a m b m' => n3 a m b (List.mem_cons_of_mem _ m')⟩
        refine ⟨l, b, xs, zs, rfl, rfl, hl, hb, by rw [vl.len, OwL.len rb]; exact hz, q _ _ (F ++ F3) (OwL.app vl rb) nd2 fun b m => (List.mem_append.mp m).imp_right fun m => ?_⟩
        rw [List.append_nil]
        exact List.mem_cons_of_mem _ m
    · cases hg
  · cases hg
end
end Pu

/-! PuM: x[i] = e. -/
namespace Pu
open PySem PySem.Spec PyProof.Rows L2
section
variable {K : PySem.W.Frag} {H : Hp} {Z : Zs}
theorem OwL.set : ∀ {ds : List D} {xs : List V} {F Fx : List Addr} {i : Nat} {d : D} {x : V}, OwL K H ds xs F → i < ds.length → Ow K H d x Fx → (F ++ Fx).Nodup → ∃ F', OwL K H (ds.set i d) (xs.set i x) F' ∧ F'.Nodup ∧ ∀ b ∈ F', b ∈ F ∨ b ∈ Fx
  | [], _, _, _, _, _, _, _, hi, _, _ => by simp at hi
  | d0 :: ds, _, _, Fx, 0, d, x, ⟨x0, r, F1, F2, rfl, rfl, h, t⟩, _, q, nd => by
    refine ⟨Fx ++ F2, ⟨x, r, Fx, F2, rfl, rfl, q, t⟩, ?_, fun b m => ?_⟩
    · obtain ⟨n1, n2, n3⟩ := List.nodup_append.mp nd
      exact List.nodup_append.mpr ⟨n2, (List.nodup_append.mp n1).2.1, fun a m b m' e => n3 b (List.mem_append_right _ m') a m e.symm⟩
    · rcases List.mem_append.mp m with m | m
      · exact .inr m
      · exact .inl (List.mem_append_right _ m)
  | d0 :: ds, _, _, Fx, i + 1, d, x, ⟨x0, r, F1, F2, rfl, rfl, h, t⟩, hi, q, nd => by
    obtain ⟨n1, n2, n3⟩ := List.nodup_append.mp nd
    obtain ⟨m1, m2, m3⟩ := List.nodup_append.mp n1
    obtain ⟨F', o, nd', sub⟩ := OwL.set (i := i) t (by simpa using hi) q (List.nodup_append.mpr ⟨m2, n2, fun a m b m' => n3 a (List.mem_append_right _ m) b m'⟩)
    refine ⟨F1 ++ F', ⟨x0, _, F1, F', rfl, rfl, h, o⟩, List.nodup_append.mpr ⟨m1, nd', fun a m b m' e => ?_⟩, fun b m => ?_⟩
    · rcases sub b m' with z | z
      · exact m3 a m b z e
      · exact n3 a (List.mem_append_left _ m) b z e
    · rcases List.mem_append.mp m with m | m
      · exact .inl (List.mem_append_left _ m)
      · exact (sub b m).imp_left (List.mem_append_right _)
theorem VlL.set {k : Nat} {F Fx : List Addr} {ds : List D} {xs : List V} {i : Nat} {d : D} {x : V} (hk : k = 2 ∨ k = 3) (h : VlL K H Z k F ds xs) (hi : i < ds.length) (hx : Vl K H Z (if k = 2 then 1 else 3) Fx d x) (nd : (F ++ Fx).Nodup) :
    ∃ F', VlL K H Z k F' (ds.set i d) (xs.set i x) ∧ F'.Nodup ∧ ∀ b ∈ F', b ∈ F ∨ b ∈ Fx := by
  rcases hk with rfl | rfl
  · obtain ⟨rfl, h⟩ := h
    obtain ⟨rfl, hx⟩ := hx
    exact ⟨[], ⟨rfl, h.set hx⟩, List.nodup_nil, fun b m => by simp at m⟩
  · exact OwL.set h hi hx nd
theorem VlL.one {k : Nat} {F : List Addr} {d : D} {x : V} (h : Vl K H Z k F d x) (hk : k = 1 ∨ k = 3) : VlL K H Z k F [d] [x] := by
  rcases hk with rfl | rfl
  · exact ⟨h.1, IsL.one h.2⟩
  · exact OwL.one h
theorem if13 {k : Nat} (hk : k = 2 ∨ k = 3) : (if k = 2 then 1 else 3) = 1 ∨ (if k = 2 then 1 else 3) = 3 := by
  rcases hk with rfl | rfl
  · exact .inl rfl
  · exact .inr rfl
section
variable {κ : Type} [DecidableEq κ] {f : κ → D}
theorem dput_pos (inj : ∀ a b, f a = f b → a = b) : ∀ {kvs : List (κ × V)} {vs : List D} {k : κ} {d : D} {y : V}, (kvs.map (·.1)).Nodup → vs.length = kvs.length →
    (∃ m, m < vs.length ∧ dputV (kvs.map fun p => f p.1) vs (f k) d = vs.set m d ∧ (putK kvs k y).map (fun p => p.2) = (kvs.map fun p => p.2).set m y) ∨
      (dputV (kvs.map fun p => f p.1) vs (f k) d = vs ++ [d] ∧ (putK kvs k y).map (fun p => p.2) = kvs.map (fun p => p.2) ++ [y])
  | [], [], k, d, y, _, _ => .inr ⟨rfl, rfl⟩
  | [], _ :: _, k, d, y, _, h => by simp at h
  | p :: kvs, [], k, d, y, _, h => by simp at h
  | p :: kvs, e :: vs, k, d, y, nd, h => by
    rw [List.map_cons, List.nodup_cons] at nd
    by_cases hk : p.1 = k
    · refine .inl ⟨0, by simp, ?_, ?_⟩
      · show (if f p.1 = f k then d :: vs else _) = _
        rw [if_pos (by rw [hk])]; rfl
      · rw [putK_cons_pos (fun q m z => nd.1 (by rw [← z]; exact List.mem_map_of_mem m)) hk]; rfl
    · have hf : ¬ f p.1 = f k := fun z => hk (inj _ _ z)
      have e3 : dputV ((p :: kvs).map fun p => f p.1) (e :: vs) (f k) d = e :: dputV (kvs.map fun p => f p.1) vs (f k) d := by
        show (if f p.1 = f k then d :: vs else _) = _
        rw [if_neg hf]
      rw [e3, putK_cons_neg hk]
      rcases dput_pos inj (k := k) (d := d) (y := y) nd.2 (by simpa using h) with ⟨m, h1, h2, h3⟩ | ⟨h2, h3⟩
      · refine .inl ⟨m + 1, by simpa using h1, by rw [h2]; rfl, ?_⟩
        rw [List.map_cons, h3]; rfl
      · refine .inr ⟨by rw [h2]; rfl, ?_⟩
        rw [List.map_cons, h3]; rfl
theorem putK_nodup : ∀ {kvs : List (κ × V)} {k : κ} {y : V}, (kvs.map (·.1)).Nodup → ((putK kvs k y).map (·.1)).Nodup
  | kvs, k, y, nd => by
    unfold putK
    split
    · rw [List.map_map]
      have : (kvs.map ((·.1) ∘ fun kv => if kv.1 = k then (kv.1, y) else kv)) = kvs.map (·.1) := List.map_congr_left fun p _ => by
        show (if p.1 = k then (p.1, y) else p).1 = p.1
        split <;> rfl
      rw [this]; exact nd
    · rename_i h
      rw [List.map_append]
      refine List.nodup_append.mpr ⟨nd, by simp, fun a m b m' e => ?_⟩
      have : b = k := by simpa using m'
      subst this
      subst e
      obtain ⟨p, mp, e2⟩ := List.mem_map.mp m
      exact h (List.any_eq_true.mpr ⟨p, mp, decide_eq_true e2⟩)
theorem mem_putK {kvs : List (κ × V)} {k : κ} {y : V} {p : κ × V} (h : p ∈ putK kvs k y) : p.1 = k ∨ ∃ q ∈ kvs, q.1 = p.1 := by
  unfold putK at h
  split at h
  · obtain ⟨q, m, e⟩ := List.mem_map.mp h
    split at e
    · subst e; exact .inr ⟨q, m, rfl⟩
    · subst e; exact .inr ⟨q, m, rfl⟩
  · rcases List.mem_append.mp h with m | m
    · exact .inr ⟨p, m, rfl⟩
    · have : p = (k, y) := by simpa using m
      subst this; exact .inl rfl
end
theorem dic_len {r : Nat} {ks : List D} {xs : List V} {u : HO} (h : DicHO r ks xs u) : ks.length = xs.length := by
  match r, h with
  | 0, ⟨kvs, _, e1, e2, _⟩ => rw [e1, e2]; simp
  | 1, ⟨kvs, _, e1, e2, _⟩ => rw [e1, e2]; simp
/-- a dict is written -/
theorem dic_put {r k : Nat} {ks vs : List D} {key d : D} {a : Addr} {xs : List V} {u : HO} {y x : V} {F Fx : List Addr} (hk : k = 2 ∨ k = 3) (hu : H a = some u) (dh : DicHO r ks xs u) (hv : VlL K H Z k F vs xs) (hy : Is K H (fun a => H a ≠ none) key y) (kf : keyFor r key = true)
    (hl : ks.length < sizeLine) (hx : Vl K H Z (if k = 2 then 1 else 3) Fx d x) (nd : (F ++ Fx).Nodup) :
    ∃ u' xs' F', DPut H a y x (upd H a u') ∧ DicHO r (dputK ks key) xs' u' ∧ VlL K H Z k F' (dputV ks vs key d) xs' ∧ F'.Nodup ∧ ∀ b ∈ F', b ∈ F ∨ b ∈ Fx := by
  have two : ∀ {vs' : List D} {xs' : List V} , ((∃ m, m < vs.length ∧ vs' = vs.set m d ∧ xs' = xs.set m x) ∨ (vs' = vs ++ [d] ∧ xs' = xs ++ [x])) → ∃ F', VlL K H Z k F' vs' xs' ∧ F'.Nodup ∧ ∀ b ∈ F', b ∈ F ∨ b ∈ Fx := fun {vs' xs'} h => by
    rcases h with ⟨m, h1, rfl, rfl⟩ | ⟨rfl, rfl⟩
    · exact hv.set hk h1 hx nd
    · exact ⟨F ++ Fx, hv.app hk (VlL.one hx (if13 hk)), nd, fun b m => List.mem_append.mp m⟩
  match r, dh with
  | 0, ⟨kvs, eu, ek, ex, ok, ndk⟩ =>
    have kf : (toKey key).isSome = true := kf
    obtain ⟨k', e⟩ := Option.isSome_iff_exists.mp kf
    have ey := hy.kV e
    have e3 := toKey_kD e
    have ok' := hy.keyOk e
    subst e3 ey eu
    have lv : vs.length = kvs.length := by rw [← hv.len, ex]; simp
    obtain ⟨F', q1, q2, q3⟩ := two (vs' := dputV ks vs (kD k') d) (xs' := (putK kvs k' x).map (fun p => p.2)) (by
      rw [ek, ex]
      exact dput_pos kD_inj ndk lv)
    refine ⟨.dK (putK kvs k' x), _, F', DPut.k hu (by rw [ek] at hl; simpa using hl), ⟨putK kvs k' x, rfl, ?_, rfl, fun p m => ?_, putK_nodup ndk⟩, q1, q2, q3⟩
    · rw [ek]; exact (dput_keys kD_inj).symm
    · rcases mem_putK m with h | ⟨q, mq, h⟩
      · rw [h]; exact ok'
      · rw [← h]; exact ok q mq
  | 1, ⟨kvs, eu, ek, ex, ok, ndk⟩ =>
    cases key with
    | tup es =>
      have kf : (toKeys es).isSome = true := kf
      obtain ⟨k', e⟩ := Option.isSome_iff_exists.mp kf
      obtain ⟨b, ys, ey, hb, ry⟩ := hy
      have e2 := ry.kVs e
      have ok' := ry.keysOk e
      have e3 := toKeys_kD e
      subst e2 e3 ey eu
      have lv : vs.length = kvs.length := by rw [← hv.len, ex]; simp
      obtain ⟨F', q1, q2, q3⟩ := two (vs' := dputV ks vs (.tup (k'.map kD)) d) (xs' := (putK kvs k' x).map (fun p => p.2)) (by
        rw [ek, ex]
        exact dput_pos (f := fun (q : List Key) => D.tup (q.map kD)) kT_inj ndk lv)
      refine ⟨.dT (putK kvs k' x), _, F', DPut.t hu hb (by rw [ek] at hl; simpa using hl), ⟨putK kvs k' x, rfl, ?_, rfl, fun p m => ?_, putK_nodup ndk⟩, q1, q2, q3⟩
      · rw [ek]; exact (dput_keys (f := fun (q : List Key) => D.tup (q.map kD)) kT_inj).symm
      · rcases mem_putK m with h | ⟨q, mq, h⟩
        · rw [h]; exact ok'
        · rw [← h]; exact ok q mq
    | _ => cases kf
theorem soft_dic {r : Nat} {ks : List D} {xs : List V} {u : HO} {a : Addr} (hu : H a = some u) (h : DicHO r ks xs u) : Soft H a := by
  match r, h with
  | 0, ⟨kvs, e, _⟩ => subst e; exact ⟨fun xs => (fun z => by rw [hu] at z; cases z), fun o xs => (fun z => by rw [hu] at z; cases z)⟩
  | 1, ⟨kvs, e, _⟩ => subst e; exact ⟨fun xs => (fun z => by rw [hu] at z; cases z), fun o xs => (fun z => by rw [hu] at z; cases z)⟩
end
section
variable {K : PySem.W.Frag} {H0 : Hp} {Zc : Zs} {ks : List Nat} {env : Env} {σ : St} {H : Hp} {Z : Zs} {Fs : Nat → List Addr}
theorem SI.openD (s : SI K H0 Zc ks env σ H Z Fs) {i r : Nat} {kk vs : List D} (hk : 2 ≤ ks.getD i 1) (e : env[i]? = some (some (.dic r kk vs))) :
    ∃ l u xs F, σ[i]? = some (some (.ref l)) ∧ H l = some u ∧ DicHO r kk xs u ∧ Fs i = l :: F ∧ VlL K H Z (ks.getD i 1) F vs xs := by
  obtain ⟨v, h1, _, h3⟩ := s.slot i _ e
  generalize ks.getD i 1 = k at hk h3 ⊢
  obtain rfl | ⟨n, rfl⟩ : k = 2 ∨ ∃ n, k = n + 3 := by
    by_cases e2 : k = 2
    · exact .inl e2
    · exact .inr ⟨k - 3, by omega⟩
  · have h3 : ∃ a xs u, v = .ref a ∧ Fs i = [a] ∧ H a = some u ∧ DicHO r kk xs u ∧ IsL K H Z vs xs := h3
    obtain ⟨a, xs, u, ev, ef, ha, dh, rr⟩ := h3
    subst ev
    exact ⟨a, u, xs, [], h1, ha, dh, ef, rfl, rr⟩
  · have h3 : ∃ a xs u F', v = .ref a ∧ Fs i = a :: F' ∧ H a = some u ∧ DicHO r kk xs u ∧ OwL K H vs xs F' := h3
    obtain ⟨a, xs, u, F', ev, ef, ha, dh, rr⟩ := h3
    subst ev
    exact ⟨a, u, xs, F', h1, ha, dh, ef, rr⟩
theorem SI.closeD (s : SI K H0 Zc ks env σ H Z Fs) {i r : Nat} {l : Addr} {u u' : HO} {xs' : List V} {F F' : List Addr} {kk' vs' : List D} (hi : i < ks.length) (hk : 2 ≤ ks.getD i 1) (h1 : σ[i]? = some (some (.ref l))) (hl : Soft H l) (hF : Fs i = l :: F)
    (dh : DicHO r kk' xs' u') (vl : VlL K H Z (ks.getD i 1) F' vs' xs') (nd : F'.Nodup) (nl : l ∉ F') (nw : ∀ b ∈ F', ¬ Z b ∧ H0 b = none ∧ ∀ j, j ≠ i → b ∉ Fs j) :
    SI K H0 Zc ks (env.set i (some (.dic r kk' vs'))) σ (upd H l u') Z (setF Fs i (l :: F')) := by
  have ml : l ∈ Fs i := by rw [hF]; exact List.mem_cons_self
  have o := s.own i l ml
  have w := vl.write (o := u') (by omega) o.1 hl nl
  have vv : Vl K (upd H l u') Z (ks.getD i 1) (l :: F') (.dic r kk' vs') (.ref l) := by
    match hn : ks.getD i 1, hk, w with
    | 2, _, w => exact ⟨l, xs', u', rfl, by rw [w.1], upd_same, dh, w.2⟩
    | n + 3, _, w => exact ⟨l, xs', u', F', rfl, rfl, upd_same, dh, w⟩
  have r := s.writeOwn (o := u') hi (by omega : 1 ≤ ks.getD i 1) ml hl h1 vv (List.nodup_cons.mpr ⟨nl, nd⟩) (fun b m => by
    rcases List.mem_cons.mp m with rfl | m
    · exact ⟨o.1, o.2.1, fun j h m2 => h (s.disj j i b m2 ml)⟩
    · exact nw b m)
  rw [ks_self hi] at r
  exact r
end
def rSetAny : TSet := fun o i v H Q => rSetL o i v H Q ∨ rSetD o i v H Q
theorem set_any {X : Cx} (hu : X.A.units + 1 < cLine) : PSet X rSetAny := fun pins s σ H o i v ov iv u Q I ro ri rv h =>
  h.elim (set_list pins s σ H o i v ov iv u Q I ro ri rv) (set_dict hu pins s σ H o i v ov iv u Q I ro ri rv)
/-- c[j] = v -/
def putG (c j v : D) : R D := match c with
  | .lst ds => match j with
    | .int j => match ixN ds.length j with
      | some m => .ok (.lst (ds.set m v))
      | none => .bad
    | _ => .bad
  | .dic r ks vs => if keyFor r j = true ∧ ks.length < sizeLine then .ok (.dic r (dputK ks j) (dputV ks vs j v)) else .bad
  | _ => .bad
theorem nox_put (c j v : D) : Nox (putG c j v) := by
  unfold putG
  repeat' split
  all_goals first | exact nox_ok | exact nox_bad
def setV (i : Nat) (d : D) (e : Env) : Env := e.set i (some d)
section
variable {K : PySem.W.Frag} {W : WX} {C : Cs} {ks kl kx : List Nat} {kr kv kj : Nat}
theorem SS.setI {i : Nat} {tv tj : TE} {fv fj : Env → R D} (hx : leK kx ks = true) (hi : i < ks.length) (hk : mutOk (ks.getD i 1) kv = true) (hv : SE K W C ks tv fv kv) (hj : SE K W C ks tj fj kj) :
    SS K W C ks (tAsg tv (gSub (tVar i) tj rSetAny)) (fun e => liftR e (fv e >>= fun v => getV i e >>= fun c => fj e >>= fun j => putG c j v) fun d => .nx (setV i d e)) ks kl kx kr := fun H0 Zc env σ H Z Fs D s q => by
  have hk' : (ks.getD i 1 = 2 ∧ kv ≠ 0) ∨ (ks.getD i 1 = 3 ∧ kv = 3) := by simpa [mutOk] using hk
  have ha : SE K W C ks tv fv (if ks.getD i 1 = 2 then 1 else 3) := by
    rcases hk' with ⟨e1, e2⟩ | ⟨e1, e2⟩
    · rw [e1, if_pos rfl]
      exact hv.to1 e2
    · rw [e1, if_neg (by decide)]
      subst e2
      exact hv
  have q : So (liftR env (fv env >>= fun v => getV i env >>= fun c => fj env >>= fun j => putG c j v) fun d => .nx (setV i d env)) _ _ _ _ _ := q
  have exc : ∀ {c : Nat} {H1 : Hp} {Z1 : Zs}, (∀ σ' H' Z' Fs', SI K H0 Zc kx env σ' H' Z' Fs' → W (C c) none σ' H') → Ext Z Z1 H H1 → W (C c) none σ H1 := fun {c H1 Z1} q x => by
    obtain ⟨Z3, Fs3, s3, e3, _⟩ := (s.go x).weak hx
    exact q _ _ _ _ s3
  refine ha H0 Zc env σ H Z Fs _ s (q.lift.bind.mono (fun v q y H1 Z1 Fv x fr vl => ?_) fun c q H1 Z1 x => exc q x)
  cases hg : getV i env with
  | bad => rw [hg] at q; exact q.elim
  | ex c =>
    unfold getV at hg
    split at hg <;> cases hg
  | ok c =>
    rw [hg] at q
    have ei : env[i]? = some (some c) := by
      unfold getV at hg
      split at hg
      · rename_i d h; cases hg; exact h
      · cases hg
    have q : Ro (fj env >>= fun j => putG c j v) _ _ := q
    have s1 := s.go x
    obtain ⟨v0, hv0, _⟩ := s1.slot i c ei
    refine ⟨v0, hv0, ?_⟩
    refine hj.read H0 Zc env σ H1 Z1 Fs _ s1 (q.bind.mono (fun j q w H2 Z2 Fj x2 fr2 wl => ?_) fun c q H2 Z2 x2 => exc q (x.trans x2))
    obtain ⟨_, wl⟩ := wl
    have s2 := s1.go x2
    have fr' := fr.ext vl.dom x2
    have vl' := vl.ext x2
    have xx := x.trans x2
    have ndF : ∀ {F l}, Fs i = l :: F → (F ++ Fv).Nodup := fun {F l} hF => by
      refine List.nodup_append.mpr ⟨?_, fr.nd, fun a m b m' eab => ?_⟩
      · have := s.nd i
        rw [hF] at this
        exact (List.nodup_cons.mp this).2
      · subst eab
        exact (s.own i a (by rw [hF]; exact List.mem_cons_of_mem _ m)).2.2 (fr.nw a m').1
    have nlF : ∀ {F l}, Fs i = l :: F → l ∉ F ∧ l ∉ Fv := fun {F l} hF => by
      constructor
      · have := s.nd i
        rw [hF] at this
        exact (List.nodup_cons.mp this).1
      · exact fun m => (s.own i l (by rw [hF]; exact List.mem_cons_self)).2.2 (fr.nw l m).1
    have nwF : ∀ {F : List Addr} {l : Addr} {F' : List Addr}, Fs i = l :: F → (∀ b ∈ F', b ∈ F ∨ b ∈ Fv) → ∀ b ∈ F', ¬ Z2 b ∧ H0 b = none ∧ ∀ j, j ≠ i → b ∉ Fs j := fun {F l} {F' : List Addr} hF sub b m => by
      rcases sub b m with m | m
      · have mb : b ∈ Fs i := by rw [hF]; exact List.mem_cons_of_mem _ m
        exact ⟨(s2.own i b mb).1, (s2.own i b mb).2.1, fun j h m2 => h (s2.disj j i b m2 mb)⟩
      · exact ⟨(fr'.nw b m).2, s.ext.same.free (fr.nw b m).1, fun j _ m2 => (s.own j b m2).2.2 (fr.nw b m).1⟩
    have h2 : 2 ≤ ks.getD i 1 := by omega
    have h23 : ks.getD i 1 = 2 ∨ ks.getD i 1 = 3 := by omega
    cases c with
    | lst ds =>
      cases j with
      | int n =>
        have wl : w = .int n := wl
        subst wl
        cases hm : ixN ds.length n with
        | none => simp only [putG, hm] at q; exact q.elim
        | some m =>
          simp only [putG, hm] at q
          obtain ⟨l, xs, F, o1, o2, o3, o4⟩ := s2.openL h2 ei
          rw [hv0] at o1
          cases o1
          have hlm : m < ds.length := (ixN_seq hm).2.1
          obtain ⟨F', p1, p2, p3⟩ := o4.set h23 hlm vl' (ndF o3)
          refine .inl ⟨l, xs, n, m, rfl, rfl, o2, by rw [o4.len]; exact hm, ?_⟩
          have cl := s2.closeL hi h2 hv0 o2 o3 p1 p2 (fun mm => (p3 l mm).elim (nlF o3).1 (nlF o3).2) (nwF o3 p3)
          have ol := s2.own i l (by rw [o3]; exact List.mem_cons_self)
          exact q _ _ _ _ cl (xx.ev.trans ⟨fun _ z => z, kp_write ol.1 (soft_lst o2)⟩)
      | _ => exact q.elim
    | dic r kk vs =>
      by_cases hc : keyFor r j = true ∧ kk.length < sizeLine
      · simp only [putG, if_pos hc] at q
        obtain ⟨l, u, xs, F, o1, o2, dh, o3, o4⟩ := s2.openD h2 ei
        rw [hv0] at o1
        cases o1
        obtain ⟨u', xs', F', p0, p00, p1, p2, p3⟩ := dic_put h23 o2 dh o4 wl hc.1 hc.2 vl' (ndF o3)
        refine .inr ⟨l, _, rfl, p0, ?_⟩
        have sf := soft_dic o2 dh
        have cl := s2.closeD (u := u) hi h2 hv0 sf o3 p00 p1 p2 (fun mm => (p3 l mm).elim (nlF o3).1 (nlF o3).2) (nwF o3 p3)
        have ol := s2.own i l (by rw [o3]; exact List.mem_cons_self)
        exact q _ _ _ _ cl (xx.ev.trans ⟨fun _ z => z, kp_write ol.1 sf⟩)
      · simp only [putG, if_neg hc] at q; exact q.elim
    | _ => exact q.elim
end
end Pu

/-! PuN: enumerate over a list or a tuple, from any count; reversed. -/
namespace Pu
open PySem PySem.Spec PyProof.Rows L2

def SqB (K : PySem.W.Frag) (b : Bool) (H : Hp) (a : Addr) (xs : List V) : Prop := if b = true then SqT K H a xs else SqL K H a xs
/-- the items of the list or tuple at a, each in a new pair behind its count -/
def IteB (K : PySem.W.Frag) (b : Bool) (k0 : Int) (a : Addr) : It :=
  ⟨fun i H => ∃ (xs : List V) (x : V), SqB K b H a xs ∧ xs[i]? = some x, fun i H v H' => ∃ T x, v = .ref T ∧ H T = none ∧ H' = upd H T (.tup [.int (k0 + (i : Nat)), x]) ∧ ∀ xs, SqB K b H a xs → xs[i]? = some x, fun i H => ∃ xs : List V, SqB K b H a xs ∧ xs.length ≤ i⟩
/-- the iterator it over what stands at a -/
def ItAt (b : Bool) (h : Heap) (it a : Addr) (i : Nat) : Prop := if b = true then h.IsTupleIter it a i else h.IsListIter it a i
theorem ItAt.obj {b : Bool} {h : Heap} {it a : Addr} {i : Nat} (x : ItAt b h it a i) : ∃ o fs, h.get? it = some o ∧ o.data = .fields fs := by
  unfold ItAt at x
  split at x
  · obtain ⟨o, ho, hc, hd⟩ := x; exact ⟨o, _, ho, hd⟩
  · obtain ⟨o, ho, hc, hd⟩ := x; exact ⟨o, _, ho, hd⟩
theorem ItAt.at {b : Bool} {h h' : Heap} {it a : Addr} {i : Nat} (x : ItAt b h it a i) (k : ∀ o, h.get? it = some o → h'.get? it = some o) : ItAt b h' it a i := by
  unfold ItAt at x ⊢
  split at x
  · rename_i hb; rw [if_pos hb]; obtain ⟨o, ho, r⟩ := x; exact ⟨o, k o ho, r⟩
  · rename_i hb; rw [if_neg hb]; exact x.at k
theorem endL {P : Program} {w : World} {A : Around} {it a : Addr} {n : Nat} {items : Array Value} (hh : A.handled = none) (hn : items[n]? = none) :
    Draws P w A it [it, a] n (fun _ _ => False) (fun j h => j = n ∧ h.IsListIter it a n ∧ h.IsList a items) where
  live := fun _ _ st => let ⟨o, ho, _⟩ := st.2.1; ⟨o, ho⟩
  frame := fun _ _ _ st hk => ⟨st.1, st.2.1.at fun o e => hk it (by simp) o e, st.2.2.at fun o e => hk a (by simp) o e⟩
  item := fun i s Q E hi st hQ => absurd st.1 (Nat.ne_of_lt hi)
  done := fun s Q E st hE => wpAny_nextOf_list_end hh st.2.1 st.2.2 hn hE
theorem endT {P : Program} {w : World} {A : Around} {it a : Addr} {n : Nat} {items : Array Value} (hh : A.handled = none) (hn : items[n]? = none) :
    Draws P w A it [it, a] n (fun _ _ => False) (fun j h => j = n ∧ h.IsTupleIter it a n ∧ h.IsTuple a items) where
  live := fun _ _ st => let ⟨o, ho, _⟩ := st.2.1; ⟨o, ho⟩
  frame := fun _ _ _ st hk => ⟨st.1, st.2.1.at fun o e => hk it (by simp) o e, st.2.2.at fun o e => hk a (by simp) o e⟩
  item := fun i s Q E hi st hQ => absurd st.1 (Nat.ne_of_lt hi)
  done := fun s Q E st hE => wpAny_nextOf_tuple_end hh st.2.1 st.2.2 hn hE
theorem turn_enumB {P : Program} {w : World} {K : PySem.W.Frag} {elts : List Expr} {kk : Nat} {tpos : Pos} (b : Bool) (k0 : Int) (a e it : Addr) :
    Turn P w K (.Tuple elts kk tpos) (IteB K b k0 a) [e, it] e (fun i h => (∃ old, IsEnum h e it (k0 + (i : Nat)) old) ∧ ItAt b h it a i ∧ e ≠ it) where
  mem := by simp
  obj := fun i h st c hb => by
    obtain ⟨⟨old, he⟩, hi, _⟩ := st
    have e' : c = e ∨ c = it := by simpa using hb
    rcases e' with z | z
    · rw [z]; exact ⟨_, he, fun v q => nomatch q⟩
    · obtain ⟨o, fs, ho, hd⟩ := hi.obj
      rw [z]; exact ⟨o, ho, fun v q => by rw [hd] at q; cases q⟩
  keep := fun i h h' st k => let ⟨⟨old, he⟩, hi, hne⟩ := st; ⟨⟨old, k e (by simp) _ he⟩, hi.at fun o q => k it (by simp) o q, hne⟩
  item := by
    intro X hP hw hK hc i pins s σ H E I hf st hg
    subst hP hw hK
    obtain ⟨⟨old, he⟩, hit, hne⟩ := st
    obtain ⟨xs, x, hq, hx⟩ := hg
    have hel : e < s.heap.objs.size := Heap.lt_size he
    have hil : it < s.heap.objs.size := by obtain ⟨_, _, q, _⟩ := hit.obj; exact Heap.lt_size q
    have hh : X.A.in1.handled = none := by simpa using I.ok.hd hc
    -- what comes of a turn
    have fin : ∀ {fp : List Addr} {n : Nat} {Pv : Nat → Value → Prop} {St : Nat → Heap → Prop} (D : Draws X.prog X.w X.A.in1 it fp n Pv St), St i s.heap → i < n → e ∉ fp → (∀ v, Pv i v → RelV x v) → (∀ j h', St j h' → ItAt b h' it a j) → (∀ xs, SqB X.K b H a xs → xs[i]? = some x) →
        wpAny (model X.prog X.w) X.A (pyNext (.ref e)) (fun o s' => ∃ v, o = some v ∧ wpAny (model X.prog X.w) X.A (letOwnedTupleGo (.Tuple elts kk tpos) (.ref e) v) (fun _ s'' => ∃ y H', Inv X pins σ H' s'' ∧ RelV y v ∧ (IteB X.K b k0 a).yld i H y H' ∧ ((∃ old, IsEnum s''.heap e it (k0 + ((i + 1 : Nat) : Int)) old) ∧ ItAt b s''.heap it a (i + 1) ∧ e ≠ it) ∧ ∀ b ∈ [e, it], H' b = none) E s') E s := by
      intro fp n Pv St D hst hlt hef hv hI hinj
      refine wpAny_pyNext_enum_itemC D he hst hlt hne hef fun u h' tk hP ho hst' hT hsz hk => ?_
      refine ⟨_, rfl, wpAny_letOwnedTupleGo_enum (s := { s with heap := h', toks := tk + 1 }) ho fun h'' he' sb => ?_⟩
      have hit' := hI _ _ hst'
      have hT2 : h''.get? s.heap.objs.size = some { cls := .type "tuple", data := .seq #[.int (k0 + (i : Nat)) tk, u] } := (sb.2 _ (Nat.ne_of_gt hel)).trans hT
      have new : ObjOk X.prog X.w (upd H s.heap.objs.size (.tup [.int (k0 + (i : Nat)), x])) h'' s.heap.objs.size (.tup [.int (k0 + (i : Nat)), x]) :=
        ⟨by show 2 ≤ sizeLine; decide, [.int (k0 + (i : Nat)) tk, u], .cons ⟨_, rfl⟩ (.cons (hv _ hP) .nil), ⟨_, hT2, rfl, _, rfl⟩⟩
      have I1 : Inv X pins σ (upd H s.heap.objs.size (.tup [.int (k0 + (i : Nat)), x])) { s with heap := h'', toks := tk + 1 } :=
        I.turnedNew (ch := [e, it]) (fun b ob hb q => (sb.2 b (fun z => hb (by simp [z]))).trans (hk b ob (fun z => hb (by simp [z])) (fun z => hb (by simp [z])) q)) hf (Nat.le_refl _) new
      refine ⟨.ref s.heap.objs.size, _, I1, rfl, ⟨_, x, rfl, I.hok.fresh (Nat.le_refl _), rfl, hinj⟩, ⟨⟨u, ?_⟩, hit'.at fun o q => (sb.2 it (Ne.symm hne)).trans q, hne⟩, fun b hb => ?_⟩
      · have e1 : k0 + ((i + 1 : Nat) : Int) = k0 + (i : Int) + 1 := by omega
        rw [e1]; exact he'
      · have hb' : b < s.heap.objs.size := by
          have e' : b = e ∨ b = it := by simpa using hb
          rcases e' with z | z
          · rw [z]; exact hel
          · rw [z]; exact hil
        rw [upd_ne (Nat.ne_of_lt hb')]
        exact (hf b hb).1
    cases b with
    | true =>
      have hq : SqT X.K H a xs := hq
      have hit2 : s.heap.IsTupleIter it a i := hit
      obtain ⟨its, rv, p, hz⟩ := I.tuple hq
      obtain ⟨u, hu, ru⟩ := rv.get hx
      have ht : s.heap.IsTuple a its.toArray := p
      have nai : a ≠ it := fun z => by
        obtain ⟨o1, q1, _, d1⟩ := hit2
        obtain ⟨o2, q2, _, n2, d2⟩ := ht
        rw [z, q1] at q2
        cases q2
        rw [d1] at d2; cases d2
      have nae : e ∉ [it, a] := fun m => by
        rcases List.mem_cons.mp m with z | m
        · exact hne z
        · have z := List.mem_singleton.mp m
          obtain ⟨o2, q2, _, n2, d2⟩ := ht
          rw [← z] at q2
          have := he.symm.trans q2
          cases this
          cases d2
      refine fin (Draws.tuple hh it a nai its.toArray) ⟨hit2, ht⟩ ?_ nae (fun v hv => ?_) (fun j h' q => q.1) (fun ys hy => by
        have hy : SqT X.K H a ys := hy
        rw [I.tuple_inj hy hq]; exact hx)
      · have := (List.getElem?_eq_some_iff.mp hu).1
        simpa using this
      · have : its[i]? = some v := by simpa using hv
        rw [hu] at this
        cases this
        exact ru
    | false =>
      have hq : SqL X.K H a xs := hq
      have hit2 : s.heap.IsListIter it a i := hit
      obtain ⟨its, rv, p, hz⟩ := I.list hq
      obtain ⟨u, hu, ru⟩ := rv.get hx
      have ht : s.heap.IsList a its.toArray := p.isList
      have nai : a ≠ it := fun z => by
        obtain ⟨o1, q1, _, d1⟩ := hit2
        obtain ⟨o2, q2, _, n2, d2⟩ := ht
        rw [z, q1] at q2
        cases q2
        rw [d1] at d2; cases d2
      have nae : e ∉ [it, a] := fun m => by
        rcases List.mem_cons.mp m with z | m
        · exact hne z
        · have z := List.mem_singleton.mp m
          obtain ⟨o2, q2, _, n2, d2⟩ := ht
          rw [← z] at q2
          have := he.symm.trans q2
          cases this
          cases d2
      refine fin (Draws.list hh it a nai its.toArray) ⟨hit2, ht⟩ ?_ nae (fun v hv => ?_) (fun j h' q => q.1) (fun ys hy => by
        have hy : SqL X.K H a ys := hy
        rw [I.list_inj hy hq]; exact hx)
      · have := (List.getElem?_eq_some_iff.mp hu).1
        simpa using this
      · have : its[i]? = some v := by simpa using hv
        rw [hu] at this
        cases this
        exact ru
  done := by
    intro X hP hw hK hc i pins s σ H E I hf st hg
    subst hP hw hK
    obtain ⟨⟨old, he⟩, hit, hne⟩ := st
    obtain ⟨xs, hq, hx⟩ := hg
    obtain ⟨f0, f1, f2, f3, f4, f5⟩ := hf it (by simp)
    have hh : X.A.in1.handled = none := by simpa using I.ok.hd hc
    have fin : ∀ {fp : List Addr} {n : Nat} {Pv : Nat → Value → Prop} {St : Nat → Heap → Prop} (D : Draws X.prog X.w X.A.in1 it fp n Pv St), St n s.heap → wpAny (model X.prog X.w) X.A (pyNext (.ref e)) (fun o s' => o = none ∧ Inv X pins σ H s') E s := fun D hst =>
      wpAny_pyNext_enum_endD D he hst fun h' eb => ⟨rfl, I.turned (t' := s.toks) (fun b o hb q => eb b o hb q) f0 f1 f3 f4 f5⟩
    cases b with
    | true =>
      have hq : SqT X.K H a xs := hq
      have hit2 : s.heap.IsTupleIter it a i := hit
      obtain ⟨its, rv, p, hz⟩ := I.tuple hq
      have ht : s.heap.IsTuple a its.toArray := p
      have hl := rv.length
      exact fin (endT (n := i) hh (by simp; omega)) ⟨rfl, hit2, ht⟩
    | false =>
      have hq : SqL X.K H a xs := hq
      have hit2 : s.heap.IsListIter it a i := hit
      obtain ⟨its, rv, p, hz⟩ := I.list hq
      have hl := rv.length
      exact fin (endL (n := i) hh (by simp; omega)) ⟨rfl, hit2, p.isList⟩
  self := fun A i s Q E st h => let ⟨⟨_, he⟩, _⟩ := st; wpAny_pyIter_enum he h
set_option maxHeartbeats 1000000 in
theorem meets_enum1 {v : Value} {o : Obj} {H : Heap → Prop} (B : Begins v o H) :
    Meets (Builtin.«enumerate.__new__» ⟨[.type "enumerate", v], []⟩) (fun _ R s => H s.heap ∧
      R (.ok (.ret (.ref (s.heap.push o).objs.size))) { s with heap := (s.heap.push o).push { cls := .type "enumerate", data := .fields #[.none, .bool false, .ref s.heap.objs.size, rawInt 0, .none, .none] } }) :=
  .of_wp fun prog w A R s h => by
    obtain ⟨hp, g, d, tk, os⟩ := s; obtain ⟨h1, h⟩ := h
    have hsub := sub_enumerate
    have q1 : ∀ {A' : Around} {E : Value → Shared → Prop} {Q : Value → Shared → Prop}, Q (.ref hp.objs.size) ⟨hp.push o, g, d, tk, os⟩ → wpAny (model prog w) A' (pyIter v) Q E ⟨hp, g, d, tk, os⟩ :=
      fun q => B.iter prog w _ _ ⟨hp, g, d, tk, os⟩ _ h1 q
    wp_walk using q1
    refine wpAny_stack_any fun st => wpAny_pure ?_
    split
    · rename_i c _ _ _ _ _
      cases (c == Value.type "enumerate")
      · wp_walk using q1
        exact ⟨_, rfl, h⟩
      · wp_walk using q1
        exact ⟨_, rfl, h⟩
    · wp_walk using q1
      exact ⟨_, rfl, h⟩
theorem enum_one {P : Program} {w : World} {A : Around} {E : Value → Shared → Prop} {s : Shared} {v : Value} {o : Obj} {H : Heap → Prop} {Q : Value → Shared → Prop} (B : Begins v o H) (h1 : H s.heap)
    (h : ∀ h', IsEnum h' (s.heap.objs.size + 1) s.heap.objs.size 0 .none → h'.get? s.heap.objs.size = some o → h'.objs.size = s.heap.objs.size + 2 →
      (∀ b o, s.heap.get? b = some o → h'.get? b = some o) → Q (.ref (s.heap.objs.size + 1)) { s with heap := h' }) :
    wpAny (model P w) A (call (.type "enumerate") [v]) Q E s := by
  refine callType_new F.called_enumerate (by decide) (F.typeCall_enumerate_1 _) (F.newCall_enumerate_1 _) (fun obj => F.args_object_init_2 obj _) F.entry_enumerate_new
    (meets_enum1 B) ⟨h1, ?_⟩
  have hz : (s.heap.push o).objs.size = s.heap.objs.size + 1 := Heap.size_push ..
  show _ ∧ _
  rw [hz]
  have he : IsEnum ((s.heap.push o).push { cls := .type "enumerate", data := .fields #[.none, .bool false, .ref s.heap.objs.size, rawInt 0, .none, .none] }) (s.heap.objs.size + 1) s.heap.objs.size 0 .none := by
    have := Heap.get?_push_size (s.heap.push o) (o := { cls := .type "enumerate", data := .fields #[.none, .bool false, .ref s.heap.objs.size, rawInt 0, .none, .none] }) rfl
    rw [hz] at this; exact this
  refine ⟨⟨_, he, rfl⟩, h _ he (Heap.get?_push_of_some _ (Heap.get?_push_size _ B.free)) (by rw [Heap.size_push, hz]) fun b o x => Heap.get?_push_of_some _ (Heap.get?_push_of_some _ x)⟩
def iEnumB (K : PySem.W.Frag) (ta : TA) : TI := fun σ H R => ta σ H fun vs H1 => ∃ b a xs, vs = [.ref a] ∧ SqB K b H1 a xs ∧ R (IteB K b 0 a) H1
theorem pi_enumB {X : Cx} {e : Expr} {ta : TA} {p pos tpos : Pos} {elts : List Expr} {kk : Nat} (hg : Gl X "enumerate") (hm : X.mg "enumerate" = none) (ha : PA X [e] ta) (hs : starEach [e] X.env = [(false, eval e X.env)] := by rfl) :
    PI X (.Tuple elts kk tpos) (.Call (.Name "enumerate" p) [e] [] pos) (iEnumB X.K ta) := by
  refine ⟨fun pins s σ H R I h => ?_⟩
  refine Call_ (ld_blt I hg hm boot_enumerate (PyProof.Rows.callWith_type1 (thn (ha.run pos pins s σ H _ I h) fun us s1 ⟨vs, H1, I1, r1, q1⟩ => ?_) hs rfl))
  obtain ⟨b, a, xs, ex, hq, q⟩ := q1
  subst ex
  cases r1 with
  | cons r rr =>
    cases rr
    cases r
    have fin : ∀ {o : Obj} {Hh : Heap → Prop}, Begins (.ref a) o Hh → Hh s1.heap → (∀ h' : Heap, h'.get? s1.heap.objs.size = some o → ItAt b h' s1.heap.objs.size a 0) → wpAny (model X.prog X.w) X.A (call (.type "enumerate") [Value.ref a]) (fun u s' => wpAny (model X.prog X.w) X.A (pyIter u) (PIE X pins σ (.Tuple elts kk tpos) R) X.xe s') X.xe s1 := by
      intro o Hh B h1 hI
      refine enum_one B h1 fun h' he ho hsz hk => wpAny_pyIter_enum he ?_
      have I2 : Inv X pins σ H1 { s1 with heap := h' } := I1.kept (t' := s1.toks) hk
      refine ⟨s1.heap.objs.size + 1, [s1.heap.objs.size + 1, s1.heap.objs.size], _, _, H1, rfl, I2, turn_enumB b 0 a (s1.heap.objs.size + 1) s1.heap.objs.size, ⟨⟨.none, by simpa using he⟩, hI h' ho, Nat.succ_ne_self _⟩, fun b hb => ?_, q⟩
      have e' : b = s1.heap.objs.size + 1 ∨ b = s1.heap.objs.size := by simpa using hb
      have hle : s1.heap.objs.size ≤ b := by
        rcases e' with z | z
        · rw [z]; exact Nat.le_add_right _ _
        · rw [z]; exact Nat.le_refl _
      exact I1.fpOk hle (I1.hok.fresh hle)
    cases b with
    | true =>
      obtain ⟨its, rv, p', hz⟩ := I1.tuple hq
      exact fin (begins_tuple a its.toArray) p' fun h' ho => ⟨_, ho, rfl, rfl⟩
    | false =>
      obtain ⟨its, rv, p', hz⟩ := I1.list hq
      exact fin (begins_list a its.toArray) p'.isList fun h' ho => ⟨_, ho, rfl, rfl⟩
end Pu

/-! PuO: in, chains, enumerate, op=, changes one deeper. -/
namespace Pu
open PySem PySem.Spec PyProof.Rows L2

/-! ### in -/
def rDIn (neg : Bool) : R2 := fun y x H Q => ∃ a o, x = .ref a ∧ DGet H a y o ∧ Q (.bl (if neg then !o.isSome else o.isSome)) H
theorem op_din {X : Cx} (hu : X.A.units + 1 < cLine) : OpR X (compareOp .In) (rDIn false) := by
  intro pins s σ H y x v u Q I ry rx h
  obtain ⟨a, o, ex, g, q⟩ := h
  subst ex
  cases (show u = Value.ref a from rx)
  exact d_in hu I g ry fun s' I' => ⟨.bl o.isSome, H, I', rfl, q⟩
theorem op_dnotin {X : Cx} (hu : X.A.units + 1 < cLine) : OpR X (compareOp .NotIn) (rDIn true) := by
  intro pins s σ H y x v u Q I ry rx h
  obtain ⟨a, o, ex, g, q⟩ := h
  subst ex
  cases (show u = Value.ref a from rx)
  exact d_notIn hu I g ry fun s' I' => ⟨.bl (!o.isSome), H, I', rfl, q⟩
def rSgn (neg : Bool) : R2 := fun x y H Q => ∃ (c : Nat) (z : Str), x = .str ⟨#[c]⟩ ∧ y = .str z ∧ Q (.bl (if neg then !decide (c ∈ z.cps.toList) else decide (c ∈ z.cps.toList))) H
def rInG (K : PySem.W.Frag) (neg : Bool) : R2 := fun x y H Q => rDIn neg x y H Q ∨ (rIn K neg x y H Q ∨ rSgn neg x y H Q)
theorem op_inG {X : Cx} (hu : X.A.units + 1 < cLine) : OpR X (compareOp .In) (rInG X.K false) := (op_din hu).or (op_in_seq.or op_in_sign)
theorem op_notInG {X : Cx} (hu : X.A.units + 1 < cLine) : OpR X (compareOp .NotIn) (rInG X.K true) := (op_dnotin hu).or (op_notIn_seq.or op_notIn_sign)
/-- scalars, as values -/
def scV : D → Option V
  | .non => some .non
  | .bl b => some (.bl b)
  | .int i => some (.int i)
  | .str s => some (.str (ofT s))
  | _ => none
def scVs : List D → Option (List V)
  | [] => some []
  | d :: ds => match scV d, scVs ds with
    | some v, some vs => some (v :: vs)
    | _, _ => none
def inL (x : D) (ds : List D) : R Bool := match scV x, scVs ds with
  | some v, some vs => .ok (inV v vs)
  | _, _ => .bad
def inB (x c : D) : R Bool := match c with
  | .dic r ks _ => if keyFor r x = true then .ok (decide (x ∈ ks)) else .bad
  | .lst ds => inL x ds
  | .tup ds => inL x ds
  | .str s => match x with
    | .str [c] => .ok (decide (c ∈ s))
    | _ => .bad
  | _ => .bad
def inG (x c : D) : R D := inB x c >>= fun b => okB b
def notInG (x c : D) : R D := inB x c >>= fun b => okB (!b)
theorem nox_inB (x c : D) : Nox (inB x c) := by
  unfold inB inL
  repeat' split
  all_goals first | exact nox_ok | exact nox_bad
theorem nox_in (x c : D) : Nox (inG x c) := by
  unfold inG
  cases h : inB x c with
  | ok b => exact nox_ok
  | ex e => exact absurd h (nox_inB x c e)
  | bad => exact nox_bad
theorem nox_notIn (x c : D) : Nox (notInG x c) := by
  unfold notInG
  cases h : inB x c with
  | ok b => exact nox_ok
  | ex e => exact absurd h (nox_inB x c e)
  | bad => exact nox_bad
section
variable {K : PySem.W.Frag} {H : Hp} {Z : Zs}
theorem scV_is {d : D} {v w : V} (h : Is K H Z d v) (e : scV d = some w) : v = w ∧ flatV v = true := by
  cases d <;> simp [scV] at e
  · subst e; rw [show v = .non from h]; exact ⟨rfl, rfl⟩
  · subst e; rw [show v = .bl _ from h]; exact ⟨rfl, rfl⟩
  · subst e; rw [show v = .int _ from h]; exact ⟨rfl, rfl⟩
  · subst e; rw [h.1]; exact ⟨rfl, rfl⟩
theorem scVs_is : ∀ {ds : List D} {vs ws : List V}, IsL K H Z ds vs → scVs ds = some ws → vs = ws ∧ vs.all flatV = true
  | [], vs, ws, h, e => by
    have h : vs = [] := h
    cases e; subst h; exact ⟨rfl, rfl⟩
  | d :: ds, vs, ws, ⟨x, r, ev, h, t⟩, e => by
    unfold scVs at e
    cases h1 : scV d with
    | none => rw [h1] at e; simp at e
    | some w =>
      cases h2 : scVs ds with
      | none => rw [h1, h2] at e; simp at e
      | some ws' =>
        rw [h1, h2] at e
        cases e
        obtain ⟨a1, a2⟩ := scV_is h h1
        obtain ⟨b1, b2⟩ := scVs_is t h2
        subst ev a1 b1
        exact ⟨rfl, by rw [List.all_cons, a2, b2]; rfl⟩
theorem dic_in {r : Nat} {ks : List D} {k : D} {a : Addr} {xs : List V} {u : HO} {y : V} (hu : L2.Rd H a u) (dh : DicHO r ks xs u) (hy : Is K H Z k y) (hk : keyFor r k = true) : ∃ o, DGet H a y o ∧ o.isSome = decide (k ∈ ks) := by
  match r, dh with
  | 0, ⟨kvs, eu, ek, ex, ok⟩ =>
    subst eu ek ex
    have hk : (toKey k).isSome = true := hk
    obtain ⟨k', e⟩ := Option.isSome_iff_exists.mp hk
    have ey := hy.kV e
    rw [← toKey_kD e]
    refine ⟨_, .inl ⟨kvs, k', hu, ey, rfl⟩, ?_⟩
    rw [Bool.eq_iff_iff, decide_eq_true_iff]
    exact (mem_keys kD_inj).symm
  | 1, ⟨kvs, eu, ek, ex, ok⟩ =>
    subst eu ek ex
    cases k with
    | tup ds =>
      have hk : (toKeys ds).isSome = true := hk
      obtain ⟨k', e⟩ := Option.isSome_iff_exists.mp hk
      obtain ⟨b, ys, ey, hb, ry⟩ := hy
      have e2 := ry.kVs e
      subst e2
      rw [← toKeys_kD e]
      refine ⟨_, .inr ⟨kvs, k', b, hu, ey, hb, rfl⟩, ?_⟩
      rw [Bool.eq_iff_iff, decide_eq_true_iff]
      exact (mem_keys (f := fun (q : List Key) => D.tup (q.map kD)) kT_inj).symm
    | _ => cases hk
theorem in_core {neg : Bool} {d e : D} {x y : V} {b : Bool} {Q : VK} (hx : Is K H Z d x) (hy : Is K H Z e y) (h : inB d e = .ok b) (q : Q (.bl (if neg then !b else b)) H) : rInG K neg x y H Q := by
  have seq : ∀ {ds : List D} {a : Addr} {xs : List V}, y = .ref a → (SqL K H a xs ∨ SqT K H a xs) → IsL K H Z ds xs → inL d ds = .ok b → rInG K neg x y H Q := fun {ds a xs} ey sq r h => by
    unfold inL at h
    cases h1 : scV d with
    | none => rw [h1] at h; simp at h
    | some v =>
      cases h2 : scVs ds with
      | none => rw [h1, h2] at h; simp at h
      | some vs =>
        rw [h1, h2] at h
        have h : R.ok (inV v vs) = R.ok b := h
        injection h with h
        obtain ⟨a1, a2⟩ := scV_is hx h1
        obtain ⟨b1, b2⟩ := scVs_is r h2
        refine .inr (.inl ⟨a, xs, ey, sq, a2, b2, ?_⟩)
        rw [a1, b1, h]
        exact q
  cases e with
  | dic r ks vs =>
    obtain ⟨a, xs, u, ea, za, hu, dh, rv⟩ := hy
    have h : (if keyFor r d = true then R.ok (decide (d ∈ ks)) else .bad) = R.ok b := h
    by_cases hk : keyFor r d = true
    · rw [if_pos hk] at h
      injection h with h
      obtain ⟨o, g, eo⟩ := dic_in hu dh hx hk
      exact .inl ⟨a, o, ea, g, by rw [eo, h]; exact q⟩
    · rw [if_neg hk] at h; cases h
  | lst ds =>
    obtain ⟨a, xs, ea, ha, ra⟩ := hy
    exact seq ea (.inl (.inl (.inl ha.2))) ra h
  | tup ds =>
    obtain ⟨a, xs, ea, ha, ra⟩ := hy
    exact seq ea (.inr (.inl (.inl ha))) ra h
  | str s =>
    cases d with
    | str t =>
      match t, h, hx with
      | [c], h, hx =>
        have h : R.ok (decide (c ∈ s)) = R.ok b := h
        injection h with h
        refine .inr (.inr ⟨c, ofT s, hx.1, hy.1, ?_⟩)
        have e2 : decide (c ∈ (ofT s).cps.toList) = b := by rw [← h]; rfl
        rw [e2]
        exact q
      | [], h, _ => cases h
      | _ :: _ :: _, h, _ => cases h
    | _ => cases h
  | _ => cases h
theorem p2_in : P2 K (rInG K false) inG 3 := fun H Z d e x y Q zd hx hy q => by
  unfold inG at q
  cases h : inB d e with
  | bad => rw [h] at q; exact q.elim
  | ex c => rw [h] at q; exact q.elim
  | ok b =>
    rw [h] at q
    exact in_core hx hy h (done zd q ow_bl)
theorem p2_notIn : P2 K (rInG K true) notInG 3 := fun H Z d e x y Q zd hx hy q => by
  unfold notInG at q
  cases h : inB d e with
  | bad => rw [h] at q; exact q.elim
  | ex c => rw [h] at q; exact q.elim
  | ok b =>
    rw [h] at q
    exact in_core hx hy h (done zd q ow_bl)
end

/-! ### a < b < c -/
section
variable {K : PySem.W.Frag} {W : WX} {C : Cs} {ks : List Nat}
theorem SE.chain {r r' : R2} {g g' : D → D → R D} {ta tb tc : TE} {f1 f2 f3 : Env → R D} {k1 k2 k3 : Nat} (hp : P2 K r g 3) (hp' : P2 K r' g' 3) (n : ∀ d e, Nox (g d e)) (n' : ∀ d e, Nox (g' d e)) (h1 : SE K W C ks ta f1 k1) (h2 : SE K W C ks tb f2 k2) (h3 : SE K W C ks tc f3 k3) :
    SE K W C ks (tChain r r' ta tb tc) (fun e => f1 e >>= fun a => f2 e >>= fun b => g a b >>= asB >>= fun t => if t = true then f3 e >>= fun c => g' b c else .ok (.bl false)) 3 := fun H0 Zc env σ H Z Fs Q s q => by
  refine h1.read H0 Zc env σ H Z Fs _ s (q.bind.mono (fun d1 q v1 H1 Z1 F1 x1 fr1 vl1 => ?_) fun c q => q)
  obtain ⟨_, i1⟩ := vl1
  have q : Ro (f2 env >>= fun b => g d1 b >>= asB >>= fun t => if t = true then f3 env >>= fun c => g' b c else .ok (.bl false)) _ _ := q
  refine h2.read H0 Zc env σ H1 Z1 Fs _ (s.go x1) (q.bind.mono (fun d2 q v2 H2 Z2 F2 x2 fr2 vl2 => ?_) fun c q H2 Z2 x2 => q H2 Z2 (x1.trans x2))
  obtain ⟨_, i2⟩ := vl2
  have x12 := x1.trans x2
  have s2 := (s.go x1).go x2
  have i1' := i1.keep (Kp.of_same x2.same) (dom_mono x2.same)
  have q : Ro (g d1 d2 >>= asB >>= fun t => if t = true then f3 env >>= fun c => g' d2 c else .ok (.bl false)) _ _ := q
  refine hp H2 (fun a => H2 a ≠ none) d1 d2 v1 v2 _ (fun _ z => z) i1' i2 (Ro.nx (n d1 d2) (q.bind.bind.mono (fun d q v H3 Z3 F3 x3 fr3 vl3 => ?_) fun c q => q) (E := fun c => ∀ H' Z', Ext Z Z' H H' → W (C c) none σ H'))
  have x3' : Ext Z2 (fun a => Z2 a) H2 H3 := ⟨x3.same, fun _ z => z, fun _ z => .inl z, fun a z => dom_mono x3.same a (x2.zd a z)⟩
  cases d with
  | bl b =>
    refine ⟨b, vl3.bl, ?_⟩
    have q : Ro (if b = true then f3 env >>= fun c => g' d2 c else .ok (.bl false)) _ _ := q
    cases b with
    | false =>
      rw [if_neg Bool.false_ne_true] at q ⊢
      exact q _ H3 Z2 [] (x12.trans x3') Fr.nil bl3
    | true =>
      rw [if_pos rfl] at q ⊢
      refine h3.read H0 Zc env σ H3 Z2 Fs _ (s2.go x3') (q.bind.mono (fun d3 q v3 H4 Z4 F4 x4 fr4 vl4 => ?_) fun c q H4 Z4 x4 => q H4 Z4 ((x12.trans x3').trans x4))
      obtain ⟨_, i3⟩ := vl4
      have i2' := i2.keep (Kp.of_same (x3.same.trans x4.same)) (dom_mono (x3.same.trans x4.same))
      refine hp' H4 (fun a => H4 a ≠ none) d2 d3 v2 v3 Q (fun _ z => z) i2' i3 (Ro.nx (n' d2 d3) (q.mono (fun d q v H5 Z5 F5 x5 fr5 vl5 => ?_) fun c q => q) (E := fun c => ∀ H' Z', Ext Z Z' H H' → W (C c) none σ H'))
      have x5' : Ext Z4 (fun a => Z4 a) H4 H5 := ⟨x5.same, fun _ z => z, fun _ z => .inl z, fun a z => dom_mono x5.same a (x4.zd a z)⟩
      have xx := ((x12.trans x3').trans x4).trans x5'
      refine q v H5 Z4 F5 xx ⟨fr5.nd, fun a m => ?_⟩ vl5
      have h4 := (fr5.nw a m).1
      have hH : H a = none := ((x12.trans x3').trans x4).same.free h4
      exact ⟨hH, fun z => x4.zd a z h4⟩
  | _ => exact q.elim
end

/-! ### enumerate -/
section
variable {K : PySem.W.Frag} {W : WX} {C : Cs} {ks : List Nat} {H : Hp} {Z : Zs}
theorem stream_enumB {b : Bool} {ds : List D} {xs : List V} {a : Addr} {k0 : Int} (keep : ∀ Z2 H2, Ev Z H Z2 H2 → SqB K b H2 a xs) (hi : IsL K H Z ds xs) : Stream K (IteB K b k0 a) (numbered k0 ds) Z H where
  go := fun i Z2 H2 hi2 e => by
    rw [numbered_len] at hi2
    exact ⟨xs, xs[i]'(by rw [hi.len]; exact hi2), keep _ _ e, by simp [hi.len, hi2]⟩
  yld := fun i d Z2 H2 x H3 hd e zd y => by
    obtain ⟨T, y1, rfl, hT, rfl, y⟩ := y
    rw [numbered_get] at hd
    cases hn : ds[i]? with
    | none => rw [hn] at hd; cases hd
    | some d' =>
      rw [hn] at hd
      cases hd
      obtain ⟨v, h1, h2⟩ := hi.get hn
      have := y xs (keep _ _ e)
      rw [h1] at this
      have this := Option.some.inj this
      subst this
      have xn := Ext.new (o := .tup [.int (k0 + (i : Nat)), v]) zd hT
      exact ⟨Z2, xn, T, _, rfl, upd_same, .int (k0 + (i : Nat)), _, rfl, rfl, v, [], rfl, (h2.keep e.kp e.zm).keep xn.keep xn.zm, rfl⟩
  stop := fun Z2 H2 e => ⟨xs, keep _ _ e, by rw [numbered_len, hi.len]; exact Nat.le_refl _⟩
def enumG (ds : List D) : R (List D) := match ds with
  | [.lst ds] => .ok (numbered 0 ds)
  | [.tup ds] => .ok (numbered 0 ds)
  | _ => .bad
theorem SW.enumB {ta : TA} {f : Env → R (List D)} {k : Nat} (hk : k ≠ 0) (h : SA K W C ks ta f k) : SW K W C ks (iEnumB K ta) (fun e => f e >>= enumG) := fun H0 Zc env σ H Z Fs Q s q => by
  have h1 := h.less
  unfold lessK at h1
  rw [if_neg hk] at h1
  refine h1 H0 Zc env σ H Z Fs _ s (q.bind.mono (fun ds q vs H1 Z1 F x fr vl => ?_) fun c q => q)
  obtain ⟨_, vl⟩ := vl
  by_cases hd : ∃ l, ds = [.lst l]
  · obtain ⟨l, rfl⟩ := hd
    obtain ⟨y, e, a, xs, ea, ha, hi⟩ := isL_one vl
    subst e ea
    exact ⟨false, a, xs, rfl, .inl (.inl ha.2), q _ H1 Z1 x (stream_enumB (fun Z2 H2 e => .inl (.inl (e.kp.ls _ _ ha.2 ha.1))) hi)⟩
  · by_cases hd2 : ∃ l, ds = [.tup l]
    · obtain ⟨l, rfl⟩ := hd2
      obtain ⟨y, e, a, xs, ea, ha, hi⟩ := isL_one vl
      subst e ea
      exact ⟨true, a, xs, rfl, .inl (.inl ha), q _ H1 Z1 x (stream_enumB (fun Z2 H2 e => .inl (.inl (e.kp.tp _ _ ha))) hi)⟩
    · have e : Pu.enumG ds = .bad := by
        unfold Pu.enumG
        split
        · rename_i l; exact absurd ⟨l, rfl⟩ hd
        · rename_i l; exact absurd ⟨l, rfl⟩ hd2
        · rfl
      rw [e] at q
      exact q.elim
end

/-! ### x op= e -/
section
variable {K : PySem.W.Frag} {W : WX} {C : Cs} {ks kl kx : List Nat} {kr k : Nat}
theorem SS.aug {i : Nat} {te : TE} {f : Env → R D} {r : R2} {g : D → D → R D} (hx : leK kx ks = true) (hi : i < ks.length) (hp : P2 K r g 3) (n : ∀ d e, Nox (g d e)) (h : SE K W C ks te f k) :
    SS K W C ks (tAug i te r) (fun e => liftR e (getV i e >>= fun a => f e >>= fun b => g a b) fun d => .nx (setV i d e)) (ks.set i 3) kl kx kr := fun H0 Zc env σ H Z Fs D s q => by
  have q : So (liftR env (getV i env >>= fun a => f env >>= fun b => g a b) fun d => .nx (setV i d env)) _ _ _ _ _ := q
  cases hg : getV i env with
  | bad => rw [hg] at q; exact q.elim
  | ex c =>
    unfold getV at hg
    split at hg <;> cases hg
  | ok a =>
    rw [hg] at q
    have ei : env[i]? = some (some a) := by
      unfold getV at hg
      split at hg
      · rename_i d h; cases hg; exact h
      · cases hg
    have q : So (liftR env (f env >>= fun b => g a b) fun d => .nx (setV i d env)) _ _ _ _ _ := q
    obtain ⟨v0, hv0, _, vl0⟩ := s.slot i a ei
    refine ⟨v0, hv0, ?_⟩
    have exc : ∀ {c : Nat} {H1 : Hp} {Z1 : Zs}, (∀ σ' H' Z' Fs', SI K H0 Zc kx env σ' H' Z' Fs' → W (C c) none σ' H') → Ext Z Z1 H H1 → W (C c) none σ H1 := fun {c H1 Z1} q x => by
      obtain ⟨Z3, Fs3, s3, e3, _⟩ := (s.go x).weak hx
      exact q _ _ _ _ s3
    refine h.read H0 Zc env σ H Z Fs _ s (q.lift.bind.mono (fun b q w H1 Z1 F x fr wl => ?_) fun c q H1 Z1 x => exc q x)
    obtain ⟨_, wl⟩ := wl
    have s1 := s.go x
    obtain ⟨v1, hv1, _, vl1⟩ := s1.slot i a ei
    rw [hv0] at hv1
    cases hv1
    refine hp H1 (fun a => H1 a ≠ none) a b v0 w _ (fun _ z => z) (vl1.is0 s1.ext.zd) wl (Ro.nx (n a b) (q.mono (fun d q v H2 Z2 F2 x2 fr2 vl2 => ?_) fun c q => q) (E := fun c => ∀ σ' H' Z' Fs', SI K H0 Zc kx env σ' H' Z' Fs' → W (C c) none σ' H'))
    have x2' : Ext Z1 (fun a => Z1 a) H1 H2 := ⟨x2.same, fun _ z => z, fun _ z => .inl z, fun a z => dom_mono x2.same a (x.zd a z)⟩
    have fr3 : Fr Z1 H1 F2 := ⟨fr2.nd, fun a m => ⟨(fr2.nw a m).1, fun z => x.zd a z (fr2.nw a m).1⟩⟩
    exact q _ _ _ _ (s1.setNew x2' hi (by decide) vl2 fr3) (x.trans x2').ev
end
end Pu

/-! PuP: a def as a function of plain data. -/
namespace Pu
open PySem PySem.Spec PyProof.Rows L2

def endR (r : SR) : R D := match r with
  | .rt d => .ok d
  | .nx _ => .ok .non
  | .ex c _ => .ex c
  | _ => .bad
/-- a def: n slots, np of them parameters -/
def mden (n np : Nat) (g : Env → SR) (ds : List D) : R D := if ds.length = np then endR (g (ds.map some ++ List.replicate (n - np) none)) else .bad
def spD (K : PySem.W.Frag) (C : Cs) (m : List D → R D) (np kr : Nat) : Sp := fun vs H Q E => ∃ ds Zc, ds.length = np ∧ (∀ a, Zc a → H a ≠ none) ∧ IsL K H Zc ds vs ∧
  Ro (m ds) (fun d => ∀ v H' Z' F, Ext Zc Z' H H' → Fr Z' H F → Vl K H' Z' kr F d v → Q v H') (fun c => ∀ H' Z', Ext Zc Z' H H' → E (C c) none H')
theorem spD_len {K : PySem.W.Frag} {C : Cs} {m : List D → R D} {np kr : Nat} {ps : List Str} (h : ps.length = np) : ∀ vs H Q E, spD K C m np kr vs H Q E → vs.length = ps.length := fun vs H Q E ⟨ds, Zc, hn, _, r, _⟩ => by
  rw [r.len, hn, h]
section
variable {K : PySem.W.Frag} {W : WX} {C : Cs} {ks : List Nat}
/-- the call of a def -/
theorem SA.call {t : TA} {f : Env → R (List D)} {ka kr np : Nat} {m : List D → R D} (hm : ∀ ds, ds.length ≠ np → m ds = .bad) (h : SA K W C ks t f ka) :
    SE K W C ks (tCallS (spD K C m np kr) (WE W) t) (fun env => f env >>= m) (outK kr ka) := fun H0 Zc env σ H Z Fs Q s q => by
  have hp : Prim K (fun vs H Q => spD K C m np kr vs H Q (WE W σ)) m kr (fun c H' => W (C c) none σ H') := fun H Z ds vs Q zd vl q => by
    by_cases hn : ds.length = np
    · exact ⟨ds, Z, hn, zd, vl, q⟩
    · rw [hm ds hn] at q; exact q.elim
  by_cases hk : ka = 0
  · refine h.read H0 Zc env σ H Z Fs _ s (q.bind.mono (fun ds q vs H1 Z1 F x fr vl => ?_) fun c q => q)
    obtain ⟨rfl, vl⟩ := vl
    refine hp H1 (fun a => H1 a ≠ none) ds vs Q (fun _ z => z) vl (q.mono (fun d q3 v H2 Z2 F2 x2 fr2 vl2 => ?_) fun c q H2 Z2 x2 => ?_)
    · have x3 : Ext Z1 (fun a => Z1 a) H1 H2 := ⟨x2.same, fun _ z => z, fun _ z => .inl z, fun a z => dom_mono x2.same a (x.zd a z)⟩
      have fr3 : Fr Z1 H F2 := ⟨fr2.nd, fun a m => ⟨x.same.free (fr2.nw a m).1, fun z => (x.zd a z) (fr2.nw a m).1⟩⟩
      unfold outK at q3
      by_cases h3 : kr = 3
      · rw [if_pos h3] at q3
        subst h3
        exact q3 v H2 Z1 F2 (x.trans x3) fr3 vl2
      · rw [if_neg h3, if_pos hk] at q3
        refine q3 v H2 Z1 [] (x.trans x3) Fr.nil ⟨rfl, vl2.is0 x2.zd⟩
    · have x3 : Ext Z1 (fun a => Z1 a) H1 H2 := ⟨x2.same, fun _ z => z, fun _ z => .inl z, fun a z => dom_mono x2.same a (x.zd a z)⟩
      exact q H2 Z1 (x.trans x3)
  · have h' := h.less
    unfold lessK at h'
    rw [if_neg hk] at h'
    refine h' H0 Zc env σ H Z Fs _ s (q.bind.mono (fun ds q vs H1 Z1 F x fr vl => ?_) fun c q => q)
    obtain ⟨rfl, vl⟩ := vl
    refine hp H1 Z1 ds vs Q x.zd vl (q.mono (fun d q v H2 Z2 F2 x2 fr2 vl2 => ?_) fun c q H2 Z2 x2 => q H2 Z2 (x.trans x2))
    have ek : outK kr ka = kr := by
      unfold outK
      by_cases h3 : kr = 3
      · rw [if_pos h3, h3]
      · rw [if_neg h3, if_neg hk]
    rw [ek] at q
    exact q v H2 Z2 F2 (x.trans x2) ⟨fr2.nd, fun a m => ⟨x.same.free (fr2.nw a m).1, (fr2.nw a m).2⟩⟩ vl2
theorem mden_len {n np : Nat} {g : Env → SR} : ∀ ds, ds.length ≠ np → mden n np g ds = .bad := fun ds h => by
  unfold mden; rw [if_neg h]
end
theorem isL_slot {K : PySem.W.Frag} {H : Hp} {Z : Zs} {ds : List D} {vs : List V} (h : IsL K H Z ds vs) (m j : Nat) {i : Nat} {d : D} (e : (ds.map some ++ List.replicate m none)[i]? = some (some d)) :
    ∃ v, (vs.map some ++ List.replicate j (none : Option V))[i]? = some (some v) ∧ Is K H Z d v := by
  by_cases hi : i < ds.length
  · rw [List.getElem?_append_left (by simpa using hi), List.getElem?_map] at e
    have e2 : ds[i]? = some d := by
      cases h2 : ds[i]? with
      | none => rw [h2] at e; cases e
      | some d' => rw [h2] at e; cases e; rfl
    obtain ⟨v, h1, h2⟩ := h.get e2
    refine ⟨v, ?_, h2⟩
    rw [List.getElem?_append_left (by rw [List.length_map, h.len]; exact hi), List.getElem?_map, h1]
    rfl
  · rw [List.getElem?_append_right (by simp; omega)] at e
    rw [List.getElem?_replicate] at e
    split at e <;> cases e
/-- the state as a def is entered -/
theorem SI.enter {K : PySem.W.Frag} {H : Hp} {Zc : Zs} {ds : List D} {vs : List V} {N : List Str} {n np : Nat} (zd : ∀ a, Zc a → H a ≠ none) (h : IsL K H Zc ds vs) (hn : N.length = n) (hl : ds.length = np) (hnp : np ≤ n) :
    SI K H Zc (List.replicate n 1) (ds.map some ++ List.replicate (n - np) none) (L2.start N vs) H Zc (fun _ => []) where
  len := by
    unfold L2.start
    rw [List.length_append, List.length_append, List.length_map, List.length_map, List.length_replicate, List.length_replicate, h.len, hn, hl]
  slot := fun i d e => by
    obtain ⟨v, h1, h2⟩ := isL_slot h _ (N.length - vs.length) e
    have e1 : (List.replicate n 1).getD i 1 = 1 := by
      rw [List.getD_eq_getElem?_getD, List.getElem?_replicate]
      split <;> rfl
    refine ⟨v, h1, by rw [e1]; exact Nat.le_refl _, ?_⟩
    rw [e1]
    exact ⟨rfl, h2⟩
  disj := fun _ _ _ m => by simp at m
  nd := fun _ => List.nodup_nil
  own := fun _ _ m => by simp at m
  ext := Ext.refl zd
section
variable {P : Program} {w : World} {K : PySem.W.Frag} {mg : Str → Option Value} {base : Heap}
/-- THE RULE for a def by its denotation -/
theorem okD {x qual : Str} {params : Arguments} {body : List Stmt} {scope : Scope} {dvs : List V} {kws : List (Str × V)} {f : Addr} {fd : FuncData} {N ps : List Str} {k n np kr : Nat} {C : Cs} {den : Env → SR} {kn kl kx : List Nat} (F : FunD K x qual params body scope dvs kws f fd) (S : FnScope N ps scope) (hps : ps.length = np) (hN : N.length = n) (hnp : np ≤ n)
    (hbody : ∀ (cdv : Value) (A : Around) (outer : List PySem.Env) (s : Shared) (H : Hp) (E : XK), Room k (A.deeper (envOfC qual scope s.heap.objs.size f cdv)) →
      ∃ t, PSs (cxOf (L2.CX P w) P w K mg base N qual scope f cdv A outer s H E) body t ∧ SS K (fun cls d _ H => E cls d H) C (List.replicate n 1) t den kn kl kx kr) :
    FnOk P w K mg base (L2.CX P w) (k + 1) f fd ps (spD K C (mden n np den) np kr) := by
  refine F.ok S (spD_len hps) fun cdv A outer s H vs Q E hr h => ?_
  obtain ⟨t, h1, h2⟩ := hbody cdv A outer s H E hr
  refine ⟨t, h1, ?_⟩
  obtain ⟨ds, Zc, hl, zd, r, q⟩ := h
  have q : Ro (if ds.length = np then endR (den (ds.map some ++ List.replicate (n - np) none)) else .bad) _ _ := q
  rw [if_pos hl] at q
  refine h2 H Zc _ (L2.start N vs) H Zc (fun _ => []) _ (SI.enter zd r hN hl hnp) ?_
  cases hd : den (ds.map some ++ List.replicate (n - np) none) with
  | nx e =>
    rw [hd] at q
    intro σ' H' Z' Fs' s' e'
    refine q .non H' Z' [] s'.ext Fr.nil ?_
    match kr with
    | 0 => exact ⟨rfl, rfl⟩
    | 1 => exact ⟨rfl, rfl⟩
    | 2 => exact ⟨rfl, rfl⟩
    | n + 3 => exact ⟨rfl, rfl⟩
  | rt d => rw [hd] at q; exact q
  | bk e => rw [hd] at q; exact q.elim
  | ct e => rw [hd] at q; exact q.elim
  | ex c e => rw [hd] at q; exact fun σ' H' Z' Fs' s' => q H' Z' s'.ext
  | bad => rw [hd] at q; exact q.elim
end
/-- a constant of the top -/
theorem ST.yes {K : PySem.W.Frag} {W : WX} {C : Cs} {ks : List Nat} : ST K W C ks tYes (fun _ => .ok true) := fun H0 Zc env σ H Z Fs Q s q => q H Z (Ext.refl s.ext.zd)
end Pu

/-! PuQ: changes within a list of lists or dicts that is all one's own; less closely held casts. -/
namespace Pu
open PySem PySem.Spec PyProof.Rows L2
section
variable {K : PySem.W.Frag} {H : Hp} {Z : Zs}
theorem OwL.at : ∀ {ds : List D} {xs : List V} {F : List Addr} {m : Nat} {c : D}, OwL K H ds xs F → ds[m]? = some c →
    ∃ F1 Fc F2 vc, F = F1 ++ (Fc ++ F2) ∧ xs[m]? = some vc ∧ Ow K H c vc Fc ∧ ∀ (H' : Hp) (c' : D) (Fc' : List Addr), Kp (fun _ => False) H H' → (∀ b, b ∈ F1 ∨ b ∈ F2 → H' b = H b) → Ow K H' c' vc Fc' → OwL K H' (ds.set m c') xs (F1 ++ (Fc' ++ F2))
  | [], _, _, _, _, _, e => by simp at e
  | d :: ds, _, _, 0, c, ⟨x, r, G1, G2, rfl, rfl, h, t⟩, e => by
    cases e
    refine ⟨[], G1, G2, x, rfl, rfl, h, fun H' c' Fc' kp eq o => ⟨x, r, Fc', G2, rfl, rfl, o, OwL.keep kp t fun b m => eq b (.inr m)⟩⟩
  | d :: ds, _, _, m + 1, c, ⟨x, r, G1, G2, rfl, rfl, h, t⟩, e => by
    obtain ⟨F1, Fc, F2, vc, e1, e2, o, cl⟩ := OwL.at (m := m) t (by simpa using e)
    refine ⟨G1 ++ F1, Fc, F2, vc, by rw [e1, List.append_assoc], by simpa using e2, o, fun H' c' Fc' kp eq o' => ?_⟩
    rw [List.append_assoc]
    exact ⟨x, r, G1, F1 ++ (Fc' ++ F2), rfl, rfl, Ow.keep kp h fun b mb => eq b (.inl (List.mem_append_left _ mb)), cl H' c' Fc' kp (fun b mb => eq b (mb.imp_left (List.mem_append_right _))) o'⟩
end
/-- the item of the i-th slot's list -/
def innerAt (i : Nat) (j : D) (e : Env) : R (Nat × List D × D) := match e[i]? with
  | some (some (.lst ds)) => match j with
    | .int n => match ixN ds.length n with
      | some m => match ds[m]? with
        | some c => .ok (m, ds, c)
        | none => .bad
      | none => .bad
    | _ => .bad
  | _ => .bad
theorem innerAt_ok {i : Nat} {j : D} {e : Env} {m : Nat} {ds : List D} {c : D} (h : innerAt i j e = .ok (m, ds, c)) : e[i]? = some (some (.lst ds)) ∧ ds[m]? = some c ∧ ∃ n, j = .int n ∧ ixN ds.length n = some m := by
  unfold innerAt at h
  split at h
  · rename_i ds' he
    split at h
    · rename_i n
      split at h
      · rename_i m' hm
        split at h
        · rename_i c' hc
          cases h
          exact ⟨he, hc, n, rfl, hm⟩
        · cases h
      · cases h
    · cases h
  · cases h
theorem innerAt_nox (i : Nat) (j : D) (e : Env) : Nox (innerAt i j e) := by
  unfold innerAt
  repeat' split
  all_goals first | exact nox_ok | exact nox_bad
section
variable {K : PySem.W.Frag} {H0 : Hp} {Zc : Zs} {ks : List Nat} {env : Env} {σ : St} {H : Hp} {Z : Zs} {Fs : Nat → List Addr}
/-- the inner thing of a slot, and how it is put back changed -/
theorem SI.inner (s : SI K H0 Zc ks env σ H Z Fs) {i m : Nat} {ds : List D} {c : D} (hi : i < ks.length) (hk : ks.getD i 1 = 3) (ei : env[i]? = some (some (.lst ds))) (hc : ds[m]? = some c) :
    ∃ l xs vc Fc, σ[i]? = some (some (.ref l)) ∧ H l = some (.lst xs) ∧ xs[m]? = some vc ∧ Ow K H c vc Fc ∧ Fc.Nodup ∧ (∀ b ∈ Fc, b ∈ Fs i) ∧ xs.length = ds.length ∧
      ∀ {a : Addr} {o : HO} {c' : D} {Fc' : List Addr} , a ∈ Fc → Soft H a → Ow K (upd H a o) c' vc Fc' → Fc'.Nodup → (∀ b ∈ Fc', b ∈ Fc ∨ (¬ Z b ∧ H0 b = none ∧ ∀ j, b ∉ Fs j)) →
        ∃ Fs', SI K H0 Zc ks (env.set i (some (.lst (ds.set m c')))) σ (upd H a o) Z Fs' := by
  obtain ⟨v, h1, _, h3⟩ := s.slot i _ ei
  rw [hk] at h3
  obtain ⟨l, xs, F, ev, ef, hl, ow⟩ := h3
  subst ev
  obtain ⟨F1, Fc, F2, vc, e1, e2, o1, cl⟩ := ow.at hc
  subst e1
  have nd := s.nd i
  rw [ef] at nd
  obtain ⟨nl, nd⟩ := List.nodup_cons.mp nd
  obtain ⟨n1, n23, n4⟩ := List.nodup_append.mp nd
  obtain ⟨n2, n3, n5⟩ := List.nodup_append.mp n23
  have sub : ∀ b ∈ Fc, b ∈ Fs i := fun b m => by rw [ef]; exact List.mem_cons_of_mem _ (List.mem_append_right _ (List.mem_append_left _ m))
  refine ⟨l, xs, vc, Fc, h1, hl, e2, o1, n2, sub, OwL.len ow, fun {a o c' Fc'} ma sf ow' nd' sb => ?_⟩
  have al : a ≠ l := fun z => nl (by rw [← z]; exact List.mem_append_right _ (List.mem_append_left _ ma))
  have kp : Kp (fun _ => False) H (upd H a o) := kp_write (fun z => z) sf
  have ow2 := cl (upd H a o) c' Fc' kp (fun b mb => upd_ne fun z => by
    subst z
    rcases mb with mb | mb
    · exact n4 b mb b (List.mem_append_left _ ma) rfl
    · exact n5 b ma b mb rfl) ow'
  have vv : Vl K (upd H a o) Z 3 (l :: (F1 ++ (Fc' ++ F2))) (.lst (ds.set m c')) (.ref l) := ⟨l, xs, _, rfl, rfl, by rw [upd_ne (fun z => al z.symm)]; exact hl, ow2⟩
  have mem : ∀ b, b ∈ l :: (F1 ++ (Fc' ++ F2)) → b ∈ Fs i ∨ (b ∈ Fc' ∧ ¬ Z b ∧ H0 b = none ∧ ∀ j, b ∉ Fs j) := fun b mb => by
    rcases List.mem_cons.mp mb with rfl | mb
    · exact .inl (by rw [ef]; exact List.mem_cons_self)
    · rcases List.mem_append.mp mb with mb | mb
      · exact .inl (by rw [ef]; exact List.mem_cons_of_mem _ (List.mem_append_left _ mb))
      · rcases List.mem_append.mp mb with mb | mb
        · exact (sb b mb).elim (fun z => .inl (sub b z)) fun z => .inr ⟨mb, z⟩
        · exact .inl (by rw [ef]; exact List.mem_cons_of_mem _ (List.mem_append_right _ (List.mem_append_right _ mb)))
  have ndn : (l :: (F1 ++ (Fc' ++ F2))).Nodup := by
    refine List.nodup_cons.mpr ⟨fun mb => ?_, List.nodup_append.mpr ⟨n1, List.nodup_append.mpr ⟨nd', n3, fun x mx y my e => ?_⟩, fun x mx y my e => ?_⟩⟩
    · rcases List.mem_append.mp mb with mb | mb
      · exact nl (List.mem_append_left _ mb)
      · rcases List.mem_append.mp mb with mb | mb
        · rcases sb l mb with z | z
          · exact nl (List.mem_append_right _ (List.mem_append_left _ z))
          · exact z.2.2 i (by rw [ef]; exact List.mem_cons_self)
        · exact nl (List.mem_append_right _ (List.mem_append_right _ mb))
    · subst e
      rcases sb x mx with z | z
      · exact n5 x z x my rfl
      · exact z.2.2 i (by rw [ef]; exact List.mem_cons_of_mem _ (List.mem_append_right _ (List.mem_append_right _ my)))
    · subst e
      rcases List.mem_append.mp my with my | my
      · rcases sb x my with z | z
        · exact n4 x mx x (List.mem_append_left _ z) rfl
        · exact z.2.2 i (by rw [ef]; exact List.mem_cons_of_mem _ (List.mem_append_left _ mx))
      · exact n4 x mx x (List.mem_append_right _ my) rfl
  have r := s.writeOwn (o := o) (k := 3) (d := .lst (ds.set m c')) hi (by decide) (sub a ma) sf h1 vv ndn (fun b mb => by
    rcases mem b mb with z | ⟨_, z⟩
    · exact ⟨(s.own i b z).1, (s.own i b z).2.1, fun j h m2 => h (s.disj j i b m2 z)⟩
    · exact ⟨z.1, z.2.1, fun j _ => z.2.2 j⟩)
  have e3 : ks.set i 3 = ks := by rw [← hk]; exact ks_self hi
  rw [e3] at r
  exact ⟨_, r⟩
end
def setIn (i : Nat) (p : Nat × List D × D) (c : D) (e : Env) : Env := e.set i (some (.lst (p.2.1.set p.1 c)))
def lstOf (c : D) : R (List D) := match c with
  | .lst es => .ok es
  | _ => .bad
section
variable {K : PySem.W.Frag} {W : WX} {C : Cs} {ks kl kx : List Nat} {kr ka kj : Nat}
theorem getV_ok {i : Nat} {e : Env} {d : D} (h : getV i e = .ok d) : e[i]? = some (some d) := by
  unfold getV at h
  split at h
  · rename_i d' h'; cases h; exact h'
  · cases h
theorem getV_nox (i : Nat) (e : Env) : Nox (getV i e) := by
  unfold getV
  split
  all_goals first | exact nox_ok | exact nox_bad
/-- x[j].append(e) and its like, x all one's own -/
theorem SS.mut2 {i : Nat} {tj : TE} {fj : Env → R D} {ta : TA} {fa : Env → R (List D)} {r : V → List V → Hp → VK → Prop} {g : List D → List D → R (List D)} (hx : leK kx ks = true) (hm : MutS K r g) (ng : ∀ ds as, Nox (g ds as)) (hi : i < ks.length) (hk : ks.getD i 1 = 3)
    (hj : SE K W C ks tj fj kj) (h : SA K W C ks ta fa 3) : SS K W C ks (tDrop (tBM K "list" r (tOp (rIx K) (tVar i) tj) ta)) (fun e => liftR e (getV i e >>= fun _ => fj e >>= fun j => innerAt i j e >>= fun p => lstOf p.2.2 >>= fun es => fa e >>= fun as => g es as >>= fun es => .ok (p, Pu.D.lst es)) fun q => .nx (setIn i q.1 q.2 e)) ks kl kx kr := fun H0 Zc env σ H Z Fs D s q => by
  have q : So (liftR env (getV i env >>= fun _ => fj env >>= fun j => innerAt i j env >>= fun p => lstOf p.2.2 >>= fun es => fa env >>= fun as => g es as >>= fun es => .ok (p, Pu.D.lst es)) fun q => .nx (setIn i q.1 q.2 env)) _ _ _ _ _ := q
  have exc : ∀ {c : Nat} {H1 : Hp} {Z1 : Zs}, (∀ σ' H' Z' Fs', SI K H0 Zc kx env σ' H' Z' Fs' → W (C c) none σ' H') → Ext Z Z1 H H1 → W (C c) none σ H1 := fun {c H1 Z1} q x => by
    obtain ⟨Z3, Fs3, s3, e3, _⟩ := (s.go x).weak hx
    exact q _ _ _ _ s3
  cases hg : getV i env with
  | bad => rw [hg] at q; exact q.elim
  | ex c => exact absurd hg (getV_nox i env c)
  | ok x0 =>
    rw [hg] at q
    have q : So (liftR env (fj env >>= fun j => innerAt i j env >>= fun p => lstOf p.2.2 >>= fun es => fa env >>= fun as => g es as >>= fun es => .ok (p, Pu.D.lst es)) fun q => .nx (setIn i q.1 q.2 env)) _ _ _ _ _ := q
    obtain ⟨v0, hv0, _⟩ := s.slot i x0 (getV_ok hg)
    refine ⟨v0, hv0, ?_⟩
    refine hj.read H0 Zc env σ H Z Fs _ s (q.lift.bind.mono (fun j q w H1 Z1 F x fr wl => ?_) fun c q H1 Z1 x => exc q x)
    obtain ⟨_, wl⟩ := wl
    have s1 := s.go x
    cases hin : innerAt i j env with
    | bad => rw [hin] at q; exact q.elim
    | ex c => exact absurd hin (innerAt_nox i j env c)
    | ok p =>
      obtain ⟨m, ds, c⟩ := p
      rw [hin] at q
      have q : Ro (lstOf c >>= fun es => fa env >>= fun as => g es as >>= fun es' => .ok ((m, ds, c), Pu.D.lst es')) _ _ := q
      obtain ⟨ei, hc, n, ej, hn⟩ := innerAt_ok hin
      subst ej
      have wl : w = .int n := wl
      subst wl
      obtain ⟨l, xs, vc, Fc, o1, o2, o3, o4, o5, o6, o7, _⟩ := s1.inner hi hk ei hc
      rw [hv0] at o1
      cases o1
      cases c with
      | lst es =>
        obtain ⟨a, ys, Fe, ev, efc, ha, oe⟩ := o4
        subst ev
        have hat : atI xs n = some (.ref a) := by unfold atI; rw [o7, hn]; exact o3
        have q : Ro (fa env >>= fun as => g es as >>= fun es' => .ok ((m, ds, Pu.D.lst es), Pu.D.lst es')) _ _ := q
        refine .inl ⟨l, xs, n, .ref a, rfl, rfl, .inl (.inl o2), hat, .inl ⟨rfl, ys, .inl (.inl ha)⟩, ?_⟩
        refine h H0 Zc env σ H1 Z1 Fs _ s1 (q.bind.mono (fun as q vs H2 Z2 Fa x2 fr2 vl => ?_) fun c q H2 Z2 x2 => exc q (x.trans x2))
        cases hgg : g es as with
        | bad => rw [hgg] at q; exact q.elim
        | ex c => exact (ng es as c hgg).elim
        | ok es' =>
          rw [hgg] at q
          have s2 := s1.go x2
          obtain ⟨l', xs', vc', Fc', p1, p2, p3, p4, p5, p6, p7, cl⟩ := s2.inner hi hk ei hc
          rw [hv0] at p1
          cases p1
          have e2 := x2.same _ _ o2
          rw [p2] at e2
          cases e2
          rw [o3] at p3
          cases p3
          obtain ⟨a', ys', Fe', ev', efc', ha', oe'⟩ := p4
          injection ev' with ev'
          subst ev'
          have e3 := x2.same _ _ ha
          rw [ha'] at e3
          cases e3
          subst efc'
          have nda := List.nodup_cons.mp p5
          have hFa : ∀ b ∈ Fa, ∀ j, b ∉ Fs j := fun b m j m2 => (s1.own j b m2).2.2 (fr2.nw b m).1
          have nd : (Fe' ++ Fa).Nodup := List.nodup_append.mpr ⟨nda.2, fr2.nd, fun b m b' m' e => by
            subst e
            exact hFa b m' i (p6 b (List.mem_cons_of_mem _ m))⟩
          refine hm H2 Z2 3 Fe' Fa a ys vs es as es' _ (.inr rfl) ha' oe' vl nd hgg fun y zs F' vl' nd' sub => ?_
          have na : a ∉ F' := fun m => (sub a m).elim nda.1 fun z => hFa a z i (p6 a List.mem_cons_self)
          have vl' : OwL K H2 es' zs F' := vl'
          obtain ⟨Fs', s3⟩ := cl (a := a) (o := .lst zs) (c' := .lst es') (Fc' := a :: F') List.mem_cons_self (soft_lst ha') ⟨a, zs, F', rfl, rfl, upd_same, OwL.keep (kp_write (Z := fun _ => False) (fun z => z) (soft_lst ha')) vl' fun b mb => upd_ne fun z => na (by rw [← z]; exact mb)⟩ (List.nodup_cons.mpr ⟨na, nd'⟩) (fun b mb => by
            rcases List.mem_cons.mp mb with rfl | mb
            · exact .inl List.mem_cons_self
            · rcases sub b mb with z | z
              · exact .inl (List.mem_cons_of_mem _ z)
              · exact .inr ⟨(fr2.nw b z).2, s1.ext.same.free (fr2.nw b z).1, hFa b z⟩)
          have oa := s2.own i a (p6 a List.mem_cons_self)
          exact q _ _ _ _ s3 ((x.trans x2).ev.trans ⟨fun _ z => z, kp_write oa.1 (soft_lst ha')⟩)
      | _ => exact q.elim
/-- x[j][k] = v, x all one's own -/
theorem SS.setI2 {i : Nat} {tv tj tk : TE} {fv fj fk : Env → R D} {kk : Nat} (hx : leK kx ks = true) (hi : i < ks.length) (hk : ks.getD i 1 = 3) (hv : SE K W C ks tv fv 3) (hj : SE K W C ks tj fj kj) (hq : SE K W C ks tk fk kk) :
    SS K W C ks (tAsg tv (gSub (tOp (rIx K) (tVar i) tj) tk rSetAny)) (fun e => liftR e (fv e >>= fun v => getV i e >>= fun _ => fj e >>= fun j => innerAt i j e >>= fun p => fk e >>= fun k => putG p.2.2 k v >>= fun c => .ok (p, c)) fun q => .nx (setIn i q.1 q.2 e)) ks kl kx kr := fun H0 Zc env σ H Z Fs D s q => by
  have q : So (liftR env (fv env >>= fun v => getV i env >>= fun _ => fj env >>= fun j => innerAt i j env >>= fun p => fk env >>= fun k => putG p.2.2 k v >>= fun c => .ok (p, c)) fun q => .nx (setIn i q.1 q.2 env)) _ _ _ _ _ := q
  have exc : ∀ {c : Nat} {H1 : Hp} {Z1 : Zs}, (∀ σ' H' Z' Fs', SI K H0 Zc kx env σ' H' Z' Fs' → W (C c) none σ' H') → Ext Z Z1 H H1 → W (C c) none σ H1 := fun {c H1 Z1} q x => by
    obtain ⟨Z3, Fs3, s3, e3, _⟩ := (s.go x).weak hx
    exact q _ _ _ _ s3
  refine hv H0 Zc env σ H Z Fs _ s (q.lift.bind.mono (fun v q y H1 Z1 Fv x1 fr1 vl1 => ?_) fun c q H1 Z1 x => exc q x)
  cases hg : getV i env with
  | bad => rw [hg] at q; exact q.elim
  | ex c => exact absurd hg (getV_nox i env c)
  | ok x0 =>
    rw [hg] at q
    have q : Ro (fj env >>= fun j => innerAt i j env >>= fun p => fk env >>= fun k => putG p.2.2 k v >>= fun c => .ok (p, c)) _ _ := q
    have s1 := s.go x1
    obtain ⟨v0, hv0, _⟩ := s1.slot i x0 (getV_ok hg)
    refine ⟨v0, hv0, ?_⟩
    refine hj.read H0 Zc env σ H1 Z1 Fs _ s1 (q.bind.mono (fun j q w H2 Z2 F2 x2 fr2 wl => ?_) fun c q H2 Z2 x2 => exc q (x1.trans x2))
    obtain ⟨_, wl⟩ := wl
    have s2 := s1.go x2
    cases hin : innerAt i j env with
    | bad => rw [hin] at q; exact q.elim
    | ex c => exact absurd hin (innerAt_nox i j env c)
    | ok p =>
      obtain ⟨m, ds, c⟩ := p
      rw [hin] at q
      have q : Ro (fk env >>= fun k => putG c k v >>= fun c' => .ok ((m, ds, c), c')) _ _ := q
      obtain ⟨ei, hc, n, ej, hn⟩ := innerAt_ok hin
      subst ej
      have wl : w = .int n := wl
      subst wl
      obtain ⟨l, xs, vc, Fc0, o1, o2, o3, o4, o5, o6, o7, _⟩ := s2.inner hi hk ei hc
      rw [hv0] at o1
      cases o1
      have hat : atI xs n = some vc := by unfold atI; rw [o7, hn]; exact o3
      refine .inl ⟨l, xs, n, vc, rfl, rfl, .inl (.inl o2), hat, ?_⟩
      refine hq.read H0 Zc env σ H2 Z2 Fs _ s2 (q.bind.mono (fun key q w2 H3 Z3 F3 x3 fr3 wl3 => ?_) fun c q H3 Z3 x3 => exc q ((x1.trans x2).trans x3))
      obtain ⟨_, wl3⟩ := wl3
      have s3 := s2.go x3
      have x23 := x2.trans x3
      have fr' := fr1.ext vl1.dom x23
      have vl' := vl1.ext x23
      obtain ⟨l', xs', vc', Fc, p1, p2, p3, p4, p5, p6, p7, cl⟩ := s3.inner hi hk ei hc
      rw [hv0] at p1
      cases p1
      have e2 := x3.same _ _ o2
      rw [p2] at e2
      cases e2
      rw [o3] at p3
      cases p3
      have hFv : ∀ b ∈ Fv, ∀ j, b ∉ Fs j := fun b m j m2 => (s.own j b m2).2.2 (fr1.nw b m).1
      have ndv : ∀ {G : List Addr}, G.Nodup → (∀ b ∈ G, b ∈ Fs i) → (G ++ Fv).Nodup := fun {G} n1 h1 => List.nodup_append.mpr ⟨n1, fr1.nd, fun b m b' m' e => by
        subst e
        exact hFv b m' i (h1 b m)⟩
      have h0v : ∀ b ∈ Fv, ¬ Z3 b ∧ H0 b = none ∧ ∀ j, b ∉ Fs j := fun b m => ⟨(fr'.nw b m).2, s.ext.same.free (fr1.nw b m).1, hFv b m⟩
      have xx := (x1.trans x2).trans x3
      cases c with
      | lst es =>
        cases key with
        | int n2 =>
          have wl3 : w2 = .int n2 := wl3
          subst wl3
          cases hm : ixN es.length n2 with
          | none => simp only [putG, hm] at q; exact q.elim
          | some m2 =>
            simp only [putG, hm] at q
            obtain ⟨a, ys, Fe, ev, efc, ha, oe⟩ := p4
            subst ev efc
            have nda := List.nodup_cons.mp p5
            obtain ⟨F', g1, g2, g3⟩ := OwL.set (i := m2) oe (ixN_seq hm).2.1 vl' (ndv nda.2 fun b mb => p6 b (List.mem_cons_of_mem _ mb))
            refine .inl ⟨a, ys, n2, m2, rfl, rfl, ha, by rw [OwL.len oe]; exact hm, ?_⟩
            have na : a ∉ F' := fun mm => (g3 a mm).elim nda.1 fun z => hFv a z i (p6 a List.mem_cons_self)
            obtain ⟨Fs', s4⟩ := cl (a := a) (o := .lst (ys.set m2 y)) (c' := .lst (es.set m2 v)) (Fc' := a :: F') List.mem_cons_self (soft_lst ha) ⟨a, _, F', rfl, rfl, upd_same, OwL.keep (kp_write (Z := fun _ => False) (fun z => z) (soft_lst ha)) g1 fun b mb => upd_ne fun z => na (by rw [← z]; exact mb)⟩ (List.nodup_cons.mpr ⟨na, g2⟩) (fun b mb => by
              rcases List.mem_cons.mp mb with rfl | mb
              · exact .inl List.mem_cons_self
              · rcases g3 b mb with z | z
                · exact .inl (List.mem_cons_of_mem _ z)
                · exact .inr (h0v b z))
            have oa := s3.own i a (p6 a List.mem_cons_self)
            exact q _ _ _ _ s4 (xx.ev.trans ⟨fun _ z => z, kp_write oa.1 (soft_lst ha)⟩)
        | _ => exact q.elim
      | dic r kk vs =>
        by_cases hcc : keyFor r key = true ∧ kk.length < sizeLine
        · simp only [putG, if_pos hcc] at q
          obtain ⟨a, ys, u, Fe, ev, efc, ha, dh, oe⟩ := p4
          subst ev efc
          have nda := List.nodup_cons.mp p5
          obtain ⟨u', ys', F', g0, g00, g1, g2, g3⟩ := dic_put (k := 3) (.inr rfl) ha dh (show VlL K H3 Z3 3 Fe vs ys from oe) wl3 hcc.1 hcc.2 vl' (ndv nda.2 fun b mb => p6 b (List.mem_cons_of_mem _ mb))
          have sf := soft_dic ha dh
          refine .inr ⟨a, _, rfl, g0, ?_⟩
          have na : a ∉ F' := fun mm => (g3 a mm).elim nda.1 fun z => hFv a z i (p6 a List.mem_cons_self)
          have g1 : OwL K H3 (dputV kk vs key v) ys' F' := g1
          obtain ⟨Fs', s4⟩ := cl (a := a) (o := u') (c' := .dic r (dputK kk key) (dputV kk vs key v)) (Fc' := a :: F') List.mem_cons_self sf ⟨a, ys', u', F', rfl, rfl, upd_same, g00, OwL.keep (kp_write (Z := fun _ => False) (fun z => z) sf) g1 fun b mb => upd_ne fun z => na (by rw [← z]; exact mb)⟩ (List.nodup_cons.mpr ⟨na, g2⟩) (fun b mb => by
            rcases List.mem_cons.mp mb with rfl | mb
            · exact .inl List.mem_cons_self
            · rcases g3 b mb with z | z
              · exact .inl (List.mem_cons_of_mem _ z)
              · exact .inr (h0v b z))
          have oa := s3.own i a (p6 a List.mem_cons_self)
          exact q _ _ _ _ s4 (xx.ev.trans ⟨fun _ z => z, kp_write oa.1 sf⟩)
        · simp only [putG, if_neg hcc] at q; exact q.elim
      | _ => exact q.elim
end
/-! ### casts of what operations give -/
/-- the root is new, what is in it has no lists -/
def own1R (d : D) : R D := match d with
  | .lst ds => if flatL ds = true then .ok d else .bad
  | .dic _ _ vs => if flatL vs = true then .ok d else .bad
  | d => flatR d
theorem vl_own1 {K : PySem.W.Frag} {H : Hp} {Z : Zs} {F : List Addr} {d : D} {v : V} {P : D → Prop} {E : Nat → Prop} (q : Ro (own1R d) P E) (vl : Vl K H Z 2 F d v) : Vl K H Z 3 F d v ∧ P d := by
  have vl : O1 K H Z F d v := vl
  cases d with
  | lst ds =>
    have q : Ro (if flatL ds = true then R.ok (D.lst ds) else .bad) P E := q
    by_cases hf : flatL ds = true
    · rw [if_pos hf] at q
      obtain ⟨a, xs, ea, ef, ha, r⟩ := vl
      exact ⟨⟨a, xs, [], ea, ef, ha, r.flat hf⟩, q⟩
    · rw [if_neg hf] at q; exact q.elim
  | dic r ks vs =>
    have q : Ro (if flatL vs = true then R.ok (D.dic r ks vs) else .bad) P E := q
    by_cases hf : flatL vs = true
    · rw [if_pos hf] at q
      obtain ⟨a, xs, u, ea, ef, ha, dh, rr⟩ := vl
      exact ⟨⟨a, xs, u, [], ea, ef, ha, dh, rr.flat hf⟩, q⟩
    · rw [if_neg hf] at q; exact q.elim
  | tup ds =>
    have q : Ro (flatR (.tup ds)) P E := q
    unfold flatR at q
    by_cases hf : flat (.tup ds) = true
    · rw [if_pos hf] at q
      obtain ⟨e, i⟩ := vl
      exact ⟨by rw [e]; exact i.flat hf, q⟩
    · rw [if_neg hf] at q; exact q.elim
  | exc c => exact (vl.2 : False).elim
  | scr ns => exact q.elim
  | non => exact ⟨⟨vl.2, vl.1⟩, q⟩
  | bl b => exact ⟨⟨vl.2, vl.1⟩, q⟩
  | int b => exact ⟨⟨vl.2, vl.1⟩, q⟩
  | str b => exact ⟨⟨⟨vl.2.1, vl.1⟩, vl.2.2⟩, q⟩
theorem nox_bind {α β : Type} {r : R α} {g : α → R β} (h : Nox r) (h2 : ∀ a, Nox (g a)) : Nox (r >>= g) := by
  cases r with
  | ok a => exact h2 a
  | ex c => exact absurd rfl (h c)
  | bad => exact nox_bad
theorem nox_own1 (d : D) : Nox (own1R d) := by
  unfold own1R flatR
  repeat' split
  all_goals first | exact nox_ok | exact nox_bad
theorem nox_flat (d : D) : Nox (flatR d) := by
  unfold flatR
  split
  all_goals first | exact nox_ok | exact nox_bad
theorem P1.own {K : PySem.W.Frag} {r : V → Hp → VK → Prop} {f : D → R D} (h : P1 K r f 2) : P1 K r (fun a => f a >>= own1R) 3 := fun H Z d v Q zd hx q => by
  refine h H Z d v Q zd hx (q.bind.mono (fun d2 q v2 H' Z' F x fr vl => ?_) fun c q => q)
  obtain ⟨vl3, q⟩ := vl_own1 q vl
  exact q v2 H' Z' F x fr vl3
theorem P2.own {K : PySem.W.Frag} {r : R2} {f : D → D → R D} (h : P2 K r f 2) : P2 K r (fun a b => f a b >>= own1R) 3 := fun H Z d e x y Q zd hx hy q => by
  refine h H Z d e x y Q zd hx hy (q.bind.mono (fun d2 q v2 H' Z' F x fr vl => ?_) fun c q => q)
  obtain ⟨vl3, q⟩ := vl_own1 q vl
  exact q v2 H' Z' F x fr vl3
theorem SE.own {K : PySem.W.Frag} {W : WX} {C : Cs} {ks : List Nat} {t : TE} {f : Env → R D} (h : SE K W C ks t f 2) : SE K W C ks t (fun e => f e >>= own1R) 3 := fun H0 Zc env σ H Z Fs Q s q => by
  refine h H0 Zc env σ H Z Fs _ s (q.bind.mono (fun d2 q v2 H' Z' F x fr vl => ?_) fun c q => q)
  obtain ⟨vl3, q⟩ := vl_own1 q vl
  exact q v2 H' Z' F x fr vl3
end Pu

/-! PuR: the rules as they are written. -/
namespace Pu
open PySem PySem.Spec PyProof.Rows L2

/-! ### texts written -/
def tx (s : String) : Txt := (Str.ofString s).cps.toList
theorem tx_eq (s : String) : ofT (tx s) = Str.ofString s := ofT_cps _
def txB (s : Txt) : Bool := s.all fun c => decide (c < 1114112)
theorem txB_ok {s : Txt} (h : txB s = true) : txOk s := fun c m => of_decide_eq_true (List.all_eq_true.mp h c m)
section
variable {K : PySem.W.Frag} {W : WX} {C : Cs} {ks : List Nat}
theorem SE.strC (s : String) (h : txB (tx s) = true) : SE K W C ks (tC (.str (Str.ofString s))) (fun _ => .ok (.str (tx s))) 3 := SE.const fun H => ⟨⟨by rw [tx_eq], rfl⟩, txB_ok h⟩
theorem SE.intC (i : Int) : SE K W C ks (tC (.int i)) (fun _ => .ok (.int i)) 3 := SE.const fun _ => ow_int
theorem SE.blC (b : Bool) : SE K W C ks (tC (.bl b)) (fun _ => .ok (.bl b)) 3 := SE.const fun _ => ow_bl
theorem SE.nonC : SE K W C ks (tC .non) (fun _ => .ok .non) 3 := SE.const fun _ => ⟨rfl, rfl⟩
end

/-! ### + -/
def addG (a b : D) : R D := match a with
  | .lst _ => addL a b >>= own1R
  | .tup _ => addL a b >>= own1R
  | _ => addS a b
def rAddG (K : PySem.W.Frag) : R2 := fun x y H Q => rAddS x y H Q ∨ rAddL K x y H Q
theorem nox_addG (a b : D) : Nox (addG a b) := by
  unfold addG
  split
  · exact nox_bind (nox_addL _ _) nox_own1
  · exact nox_bind (nox_addL _ _) nox_own1
  · exact nox_addS _ _
theorem p2_addG {K : PySem.W.Frag} : P2 K (rAddG K) addG 3 := fun H Z d e x y Q zd hx hy q => by
  cases d with
  | lst ds => exact .inr (p2_addL.own H Z (.lst ds) e x y Q zd hx hy q)
  | tup ds => exact .inr (p2_addL.own H Z (.tup ds) e x y Q zd hx hy q)
  | non => exact .inl (p2_addS H Z _ e x y Q zd hx hy q)
  | bl _ => exact .inl (p2_addS H Z _ e x y Q zd hx hy q)
  | int _ => exact .inl (p2_addS H Z _ e x y Q zd hx hy q)
  | str _ => exact .inl (p2_addS H Z _ e x y Q zd hx hy q)
  | dic _ _ _ => exact .inl (p2_addS H Z _ e x y Q zd hx hy q)
  | exc _ => exact .inl (p2_addS H Z _ e x y Q zd hx hy q)
  | scr _ => exact .inl (p2_addS H Z _ e x y Q zd hx hy q)
section
variable {X : Cx}
theorem op_addS2 : OpR X (binaryOp .Add) rAddS := op_add.or op_add_str
theorem op_addL2 : OpR X (binaryOp .Add) (rAddL X.K) := op_cat.or op_catA
theorem op_addG : OpR X (binaryOp .Add) (rAddG X.K) := op_addS2.or op_addL2
theorem op_ltG (hu : X.A.units + 64 < cLine) : OpR X (compareOp .Lt) (rLtG X.K) := op_lt.or (op_ltD hu)
theorem op_gtG (hu : X.A.units + 64 < cLine) : OpR X (compareOp .Gt) (rGtG X.K) := op_gt.or (op_gtD hu)
theorem op_leG (hu : X.A.units + 64 < cLine) : OpR X (compareOp .LtE) (rLeG X.K) := op_le.or (op_leD hu)
theorem op_geG (hu : X.A.units + 64 < cLine) : OpR X (compareOp .GtE) (rGeG X.K) := op_ge.or (op_geD hu)
theorem op_isN2 : OpR X (compareOp .Is) rIsN := op_isN
theorem op_notN2 : OpR X (compareOp .IsNot) rNotN := op_notN
theorem ip_addG : PIp X .Add (rI0 fun i j => .int (i + j)) := ip_add
end
def addI : D → D → R D := onI fun i j => okI (i + j)
theorem nox_addI (a b : D) : Nox (addI a b) := nox_onI (fun _ _ => nox_ok) a b
theorem nox_subI (a b : D) : Nox (subI a b) := nox_onI (fun _ _ => nox_ok) a b
theorem nox_mulI (a b : D) : Nox (mulI a b) := nox_onI (fun _ _ => nox_if nox_ok) a b
theorem nox_divI (a b : D) : Nox (divI a b) := nox_onI (fun _ _ => nox_if nox_ok) a b
theorem nox_modI (a b : D) : Nox (modI a b) := nox_onI (fun _ _ => nox_if nox_ok) a b
theorem nox_powI (a b : D) : Nox (powI a b) := nox_onI (fun _ _ => nox_if nox_ok) a b
theorem nox_shlI (a b : D) : Nox (shlI a b) := nox_onI (fun _ _ => nox_if nox_ok) a b
theorem nox_shrI (a b : D) : Nox (shrI a b) := nox_onI (fun _ _ => nox_if nox_ok) a b
theorem nox_andI (a b : D) : Nox (andI a b) := nox_onI (fun _ _ => nox_ok) a b
theorem nox_orI (a b : D) : Nox (orI a b) := nox_onI (fun _ _ => nox_ok) a b
theorem nox_xorI (a b : D) : Nox (xorI a b) := nox_onI (fun _ _ => nox_ok) a b
section
variable {K : PySem.W.Frag}
theorem p2_addI : P2 K (rI0 fun i j => .int (i + j)) addI 3 := p2_int0
theorem p2_subI : P2 K (rI0 fun i j => .int (i - j)) subI 3 := p2_int0
theorem p2_mulI : P2 K (rI CMulB fun i j => .int (i * j)) mulI 3 := p2_int
theorem p2_divI : P2 K (rI CDivW fun i j => .int (i / j)) divI 3 := p2_int
theorem p2_modI : P2 K (rI (fun _ j => 0 < j) fun i j => .int (i % j)) modI 3 := p2_int
theorem p2_powI : P2 K (rI CPow fun i j => .int (i ^ j.toNat)) powI 3 := p2_int
theorem p2_shlI : P2 K (rI CPow fun i j => .int (i * 2 ^ j.toNat)) shlI 3 := p2_int
theorem p2_shrI : P2 K (rI (fun _ j => 0 ≤ j) fun i j => .int (i / 2 ^ j.toNat)) shrI 3 := p2_int
theorem p2_andI : P2 K (rI0 fun i j => .int (Builtin.bitAnd i j)) andI 3 := p2_int0
theorem p2_orI : P2 K (rI0 fun i j => .int (Builtin.bitOr i j)) orI 3 := p2_int0
theorem p2_xorI : P2 K (rI0 fun i j => .int (Builtin.bitXor i j)) xorI 3 := p2_int0
end

/-! ### calls of built-ins -/
section
variable {K : PySem.W.Frag} {W : WX} {C : Cs} {ks : List Nat}
theorem SE.call1 {r : List V → Hp → VK → Prop} {g : D → R D} {ta : TE} {f : Env → R D} {k kr : Nat} (hp : P1 K (fun x H Q => r [x] H Q) g kr) (n : ∀ d, Nox (g d)) (h : SE K W C ks ta f k) : SE K W C ks (tCB r (tCons ta tNil)) (fun e => f e >>= g) (outK kr k) := SE.op1 (r := fun x H Q => r [x] H Q) (ta := ta) hp n h
theorem SE.call2 {r : List V → Hp → VK → Prop} {g : D → D → R D} {ta tb : TE} {f1 f2 : Env → R D} {k1 k2 kr : Nat} (hp : P2 K (fun x y H Q => r [x, y] H Q) g kr) (n : ∀ d e, Nox (g d e)) (h1 : SE K W C ks ta f1 k1) (h2 : SE K W C ks tb f2 k2) :
    SE K W C ks (tCB r (tCons ta (tCons tb tNil))) (fun e => f1 e >>= fun a => f2 e >>= fun b => g a b) (outK kr (minK k1 k2)) := SE.op2 (r := fun x y H Q => r [x, y] H Q) (ta := ta) (tb := tb) hp n h1 h2
theorem SE.isTy {T : String} {ta : TE} {f : Env → R D} {k : Nat} (hT : T ∈ tyAsk) (h : SE K W C ks ta f k) : SE K W C ks (tCB (rIsi K) (tCons ta (tCons (tC (.ty T)) tNil))) (fun e => f e >>= Pu.isTy T) (outK 3 k) := SE.op1 (r := fun x H Q => rIsi K [x, .ty T] H Q) (ta := ta) (p1_isTy hT) (nox_isTy T) h
theorem nox_own (g : D → R D) (n : ∀ d, Nox (g d)) (a : D) : Nox (g a >>= own1R) := nox_bind (n a) nox_own1
def listO (a : D) : R D := listG a >>= own1R
def tupleO (a : D) : R D := tupleG a >>= own1R
theorem nox_listO (a : D) : Nox (listO a) := nox_bind (nox_list a) nox_own1
theorem nox_tupleO (a : D) : Nox (tupleO a) := nox_bind (nox_tuple a) nox_own1
theorem p1_listO : P1 K (fun x H Q => ∃ p ys, [x] = [V.ref p] ∧ (SqL K H p ys ∨ SqT K H p ys) ∧ ∀ l, H l = none → Q (.ref l) (upd H l (.lst ys))) listO 3 := p1_list.own
theorem p1_tupleO : P1 K (fun x H Q => ∃ p ys, [x] = [V.ref p] ∧ ((SqL K H p ys ∧ ∀ l, H l = none → Q (.ref l) (upd H l (.tup ys))) ∨ (SqT K H p ys ∧ Q (.ref p) H))) tupleO 3 := p1_tuple.own
/-- a slice, all one's own -/
def slO (a : D) (lo hi : Option Int) : R D := slG a lo hi >>= own1R
theorem SE.sliceO {te : TE} {tl th : TO} {f : Env → R D} {fl fh : Env → R (Option Int)} {k : Nat} (h : SE K W C ks te f k) (hl : STo K W C ks tl fl) (hh : STo K W C ks th fh) :
    SE K W C ks (tSl (rSlG K) te tl th) (fun e => f e >>= fun a => fl e >>= fun lo => fh e >>= fun hi => slO a lo hi) 3 := fun H0 Zc env σ H Z Fs Q s q => by
  refine h.read H0 Zc env σ H Z Fs _ s (q.bind.mono (fun d q v H1 Z1 F x fr vl => ?_) fun c q => q)
  obtain ⟨rfl, vl⟩ := vl
  refine hl H0 Zc env σ H1 Z1 Fs _ (s.go x) (q.bind.mono (fun lo q H2 Z2 x2 => ?_) fun c q H2 Z2 x2 => q H2 Z2 (x.trans x2))
  refine hh H0 Zc env σ H2 Z2 Fs _ ((s.go x).go x2) (q.bind.mono (fun hi q H3 Z3 x3 => ?_) fun c q H3 Z3 x3 => q H3 Z3 ((x.trans x2).trans x3))
  have xx := (x.trans x2).trans x3
  have vl3 : Is K H3 (fun a => H3 a ≠ none) d v := vl.keep (Kp.of_same (x2.trans x3).same) (dom_mono (x2.trans x3).same)
  have n : Nox (slO d lo hi) := nox_bind (nox_sl d lo hi) nox_own1
  refine (p1_sl (K := K) (lo := lo) (hi := hi)).own H3 (fun a => H3 a ≠ none) d v Q (fun _ z => z) vl3 (Ro.nx (E := fun c => ∀ (H' : Hp) (Z' : Zs), Ext Z Z' H H' → W (C c) Option.none σ H') n (q.mono (fun d q v H4 Z4 F4 x4 fr4 vl4 => ?_) fun c q => q))
  have x5 : Ext Z3 Z3 H3 H4 := ⟨x4.same, fun _ z => z, fun _ z => .inl z, fun a z => dom_mono x4.same a (xx.zd a z)⟩
  exact q v H4 Z3 F4 (xx.trans x5) ⟨fr4.nd, fun a m => ⟨xx.same.free (fr4.nw a m).1, fun z => xx.zd a z (fr4.nw a m).1⟩⟩ vl4
theorem SE.kt {t : TE} {f : Env → R D} {k k' : Nat} (h : SE K W C ks t f k) (e : k = k') : SE K W C ks t f k' := e ▸ h
theorem SA.kt {t : TA} {f : Env → R (List D)} {k k' : Nat} (h : SA K W C ks t f k) (e : k = k') : SA K W C ks t f k' := e ▸ h
/-- a new dict -/
theorem SE.dicK : SE K W C ks tDNewK (fun _ => .ok (.dic 0 [] [])) 3 := fun H0 Zc env σ H Z Fs Q s q p hp => by
  have xn := Ext.new (o := .dK []) s.ext.zd hp
  exact q _ _ Z [p] xn ⟨List.nodup_cons.mpr ⟨by simp, List.nodup_nil⟩, fun a m => by rw [List.mem_singleton.mp m]; exact ⟨hp, fun z => s.ext.zd p z hp⟩⟩ ⟨p, [], .dK [], [], rfl, rfl, upd_same, ⟨[], rfl, rfl, rfl, by simp, by simp⟩, rfl, rfl⟩
theorem SE.dicT : SE K W C ks tDNewT (fun _ => .ok (.dic 1 [] [])) 3 := fun H0 Zc env σ H Z Fs Q s q p hp => by
  have xn := Ext.new (o := .dT []) s.ext.zd hp
  exact q _ _ Z [p] xn ⟨List.nodup_cons.mpr ⟨by simp, List.nodup_nil⟩, fun a m => by rw [List.mem_singleton.mp m]; exact ⟨hp, fun z => s.ext.zd p z hp⟩⟩ ⟨p, [], .dT [], [], rfl, rfl, upd_same, ⟨[], rfl, rfl, rfl, by simp, by simp⟩, rfl, rfl⟩
end
/-- raise X('..') -/
def tRaise (c : Value) (W : WX) : TS := fun _ σ H => W c none σ H
section
variable {K : PySem.W.Frag} {W : WX} {C : Cs} {ks kn kl kx : List Nat} {kr : Nat}
theorem SS.raiseC {c : Nat} (hx : leK kx ks = true) : SS K W C ks (fun _ σ H => W (C c) none σ H) (fun e => .ex c e) kn kl kx kr := SS.raise (tm := fun _ H Q => Q (C c) none H) hx fun _ _ _ q => q
theorem SS.wk {t : TS} {g : Env → SR} {kn' : List Nat} (h : SS K W C ks t g kn kl kx kr) (h1 : leK kn' kn = true) (h0 : leK ks ks = true) (h2 : leK kl kl = true) (h3 : leK kx kx = true) : SS K W C ks t g kn' kl kx kr := h.weak h0 h1 h2 h3
theorem SS.pre {t : TS} {g : Env → SR} {ks' : List Nat} (h : SS K W C ks t g kn kl kx kr) (h0 : leK ks ks' = true) (h1 : leK kn kn = true) (h2 : leK kl kl = true) (h3 : leK kx kx = true) : SS K W C ks' t g kn kl kx kr := h.weak h0 h1 h2 h3
end
end Pu

/-! PuS: calls of defs by name; the law's own call. -/
namespace Pu
open PySem PySem.Spec PyProof.Rows L2
/-- a def that is called by its name -/
def Cl (P : Program) (w : World) (K : PySem.W.Frag) (mg : Str → Option Value) (base : Heap) (k : Nat) (x : Str) (sp : Sp) : Prop :=
  ∃ (f : Addr) (fd : FuncData) (ps : List Str), FnOk P w K mg base (L2.CX P w) k f fd ps sp ∧ mg x = some (.ref f) ∧ PySem.W.keepIn K (.ref f) = true ∧ Binds K fd ps []
section
variable {X : Cx} {k : Nat} {sp : Sp} {W : WX} {x : Str} {p pos : Pos} {e : Expr} {es : List Expr} {t : TA}
theorem pe_callD (c : Cl X.prog X.w X.K X.mg X.base k x sp) (hr : Room k X.A) (hg : Gl X x) (tk : L2.Takes X W) (ha : PA X (e :: es) t) (hdb : (x == ("__debug__" : Str)) = false := by decide)
    (he : starEach (e :: es) X.env = (false, eval e X.env) :: starEach es X.env := by rfl) (hpl : (backTo pos (starEach es X.env)).any (·.1) = false := by rfl) :
    PE X (.Call (.Name x p) (e :: es) [] pos) (tCallS sp (WE W) t) := by
  obtain ⟨f, fd, ps, F, hm, hk, hb⟩ := c
  exact pe_callS F hr hg hm hk hb (fun σ => passAt tk σ) ha hdb he hpl
theorem pe_callD0 (c : Cl X.prog X.w X.K X.mg X.base k x sp) (hr : Room k X.A) (hg : Gl X x) (tk : L2.Takes X W) (hdb : (x == ("__debug__" : Str)) = false := by decide) :
    PE X (.Call (.Name x p) [] [] pos) (tCallS sp (WE W) tNil) := by
  obtain ⟨f, fd, ps, F, hm, hk, hb⟩ := c
  refine ⟨fun pins s σ H Q I h => ?_⟩
  refine wpAny_Call_Name_kw (ld_glob I hg hm ?_ hdb)
  exact PySem.W.callWith_K0 I.kIn hk (run_fnS (us := []) (vs := []) (E := WE W) F hr hb (passAt tk σ) I .nil h)
end
section
variable {P : Program} {w : World} {K : PySem.W.Frag} {mg : Str → Option Value} {base : Heap}
theorem mkCl {x qual : Str} {params : Arguments} {body : List Stmt} {scope : Scope} {f : Addr} {N ps : List Str} {k n np kr : Nat} {C : Cs} {den : Env → SR} {kn kl kx : List Nat}
    (hF : ∃ fd, FunD K x qual params body scope [] [] f fd) (hm : mg x = some (.ref f)) (S : FnScope N ps scope) (hps : ps.length = np) (hN : N.length = n) (hnp : np ≤ n)
    (hb : ∀ (kV doc pm : Value) (an : Option Addr) (cdv ct : Value) (us : List Value), us.length = ps.length → bindArgs (PySem.W.fnOf x qual params body scope .none kV doc pm an cdv ct) ⟨us, []⟩ = pure (ps.zip us))
    (hbody : ∀ (cdv : Value) (A : Around) (outer : List PySem.Env) (s : Shared) (H : Hp) (E : XK), Room k (A.deeper (envOfC qual scope s.heap.objs.size f cdv)) →
      ∃ t, PSs (cxOf (L2.CX P w) P w K mg base N qual scope f cdv A outer s H E) body t ∧ SS K (fun cls d _ H => E cls d H) C (List.replicate n 1) t den kn kl kx kr) :
    Cl P w K mg base (k + 1) x (spD K C (mden n np den) np kr) := by
  obtain ⟨fd, F⟩ := hF
  exact ⟨f, fd, ps, okD F S hps hN hnp hbody, hm, F.kp, F.bindsN hb⟩
theorem scr_of {H : Hp} {a : Addr} {ns : List Int} (h : L2.Only H) (q : SqL K H a (ns.map V.int)) : Scr K H a (ns.map V.int) := by
  rcases q with (q | ⟨o, q⟩) | q
  · rcases h a with z | ⟨o, xs, z⟩
    · rw [z] at q; cases q
    · rw [z] at q; cases q
  · exact .inl ⟨o, q⟩
  · exact .inr q
/-- the law's promise at the script -/
theorem law_sp {C : Cs} {m : List D → R D} {kr : Nat} {H : Hp} {a : Addr} {ns : List Int} (h : m [.scr ns] = .ok (.bl true)) (ho : L2.Only H) (q : SqL K H a (ns.map V.int)) : spD K C m 1 kr [.ref a] H (fun v _ => v = .bl true) (fun _ _ _ => False) := by
  refine ⟨[.scr ns], fun _ => False, rfl, fun _ z => z.elim, ⟨.ref a, [], rfl, ⟨a, rfl, scr_of ho q⟩, rfl⟩, ?_⟩
  rw [h]
  intro v H' Z' F x fr vl
  match kr, vl with
  | 0, vl => exact vl.2
  | 1, vl => exact vl.2
  | 2, vl => exact vl.2
  | n + 3, vl => exact vl.1
theorem cx_nix {H : Hp} {s : Shared} {e : Value} {s' : Shared} (h : L2.CX P w [] H s (fun _ _ _ => False) e s') : False := by
  obtain ⟨_, _, _, _, _, _, _, _, _, _, _, _, z⟩ := h
  exact z
/-- the end: the law's promise is to be shown of its def (what it lets out may name the world) -/
theorem walk_law {l : PySem.W.OpenLaw} {n k : Nat} {q : Program} {loose : List Str} {XP : (Str → Option Value) → Heap → Prop} {YP : World → Heap → Prop} {d : DefRec} {x : Str}
    (hn : l.most = some n) (hn2 : n ≤ sizeLine) (hdf : d.params.defaults = []) (hr : Room k callerA)
    (F : ∀ (w : World) (mg : Str → Option Value) (fa : Addr) (h : Heap), YP w h → h.Ns mainGlobals mg → mg d.name = some (.ref fa) →
      ∃ (K : PySem.W.Frag) (fd : FuncData) (sp : Sp), K.In h ∧ (∀ (s : Shared) (u : Value), BindsTo s fd ⟨[u], []⟩ [(x, u)]) ∧
        (∀ (H : Hp) (a : Addr) (ns : List Int), ns.length ≤ n → L2.Only H → SqL K H a (ns.map V.int) → sp [.ref a] H (fun v _ => v = .bl true) fun _ _ _ => False) ∧
        ∀ base : Heap, K.In base → base.Ns mainGlobals mg → FnOk l.prog w K mg base (L2.CX l.prog w) k fa fd [x] sp) :
    PySem.W.WalkO q loose XP YP l.row.toRowW d [] (fun f vs => PySem.call f vs) := by
  refine Att.attach_call hn hdf fun w s₀ s₁ mg mb fa o pm cd doc a vs ns G Y ho hd hcd hmg hobj hints hlen hg => ?_
  obtain ⟨K, fd, sp, KX, hb, hsp, hF⟩ := F w mg fa _ Y G.T.g hmg
  exact law_call KX G.T.g G.T.b G.T.builtins G.T.nolimit hg hobj hints (Nat.le_trans hlen hn2) hr hF hb (fun H hO hS => hsp H a ns hlen hO hS) fun H e s' z => cx_nix z
theorem cx_none {H : Hp} {s : Shared} {e : Value} {s' : Shared} (h : L2.CX P w [] H s (fun _ _ _ => False) e s') : False := by
  obtain ⟨_, _, _, _, _, _, _, _, _, _, _, _, z⟩ := h
  exact z
end
/-! ### the same, the frag named -/
def rListOf (K : PySem.W.Frag) : List V → Hp → VK → Prop := fun xs H Q => ∃ p ys, xs = [.ref p] ∧ (SqL K H p ys ∨ SqT K H p ys) ∧ ∀ l, H l = none → Q (.ref l) (upd H l (.lst ys))
def rTupleOf (K : PySem.W.Frag) : List V → Hp → VK → Prop := fun xs H Q => ∃ p ys, xs = [.ref p] ∧ ((SqL K H p ys ∧ ∀ l, H l = none → Q (.ref l) (upd H l (.tup ys))) ∨ (SqT K H p ys ∧ Q (.ref p) H))
theorem call_listK {X : Cx} : CallR X (.type "list") (rListOf X.K) := call_list_of
theorem call_tupleK {X : Cx} : CallR X (.type "tuple") (rTupleOf X.K) := call_tuple_of
theorem p1_listK {K : PySem.W.Frag} : P1 K (fun x H Q => rListOf K [x] H Q) listO 3 := p1_listO
theorem p1_tupleK {K : PySem.W.Frag} : P1 K (fun x H Q => rTupleOf K [x] H Q) tupleO 3 := p1_tupleO
theorem p1_listL {K : PySem.W.Frag} : P1 K (fun x H Q => rListOf K [x] H Q) listG 2 := p1_list
theorem p1_tupleL {K : PySem.W.Frag} : P1 K (fun x H Q => rTupleOf K [x] H Q) tupleG 2 := p1_tuple
section
variable {X : Cx} {K : PySem.W.Frag} {tg e : Expr} {te : TE} {ta : TA} {p pos tpos : Pos} {elts es : List Expr} {kk n : Nat} {t : TGs}
theorem pi_anyK (hK : X.K = K) (h : PE X e te) : PI X tg e (iAny K te) := hK ▸ pi_any h
theorem pi_enumK (hK : X.K = K) (hg : Gl X "enumerate") (hm : X.mg "enumerate" = none) (ha : PA X [e] ta) (hs : starEach [e] X.env = [(false, eval e X.env)] := by rfl) :
    PI X (.Tuple elts kk tpos) (.Call (.Name "enumerate" p) [e] [] pos) (iEnumB K ta) := hK ▸ pi_enumB hg hm ha hs
theorem pg_tupK (hK : X.K = K) (hc : X.calm = true) (h : PGs X es t)
    (hn : (assignEach es X.env).length = n := by rfl) (hst : (assignEach es X.env).findIdx? (·.1) = none := by rfl) : PG X (.Tuple es kk pos) (gTup K n t) := hK ▸ pg_tup hc h hn hst
end
section
variable {K : PySem.W.Frag} {W : WX} {C : Cs} {ks : List Nat}
theorem SE.neg {te : TE} {f : Env → R D} {k : Nat} (h : SE K W C ks te f k) : SE K W C ks (tUn (rU fun i => .int (-i)) te) (fun e => f e >>= negG) (outK 3 k) := SE.op1 (r := rU fun i => .int (-i)) (ta := te) p1_neg nox_neg h
theorem ST.cmp {te : TE} {f : Env → R D} {k : Nat} (h : SE K W C ks te f k) : ST K W C ks (tTest te) (fun e => f e >>= asB) := ST.val h
end
end Pu

/-! PuT: sorted(d), sorted(d.items()) of any size. -/
namespace Pu
open PySem PySem.Spec PyProof.Rows L2
mutual
theorem reads_there {h : Heap} : ∀ {v : Value} {d : PyData} {as : List Addr}, Reads h v d as → ∀ a ∈ as, ∃ o, h.get? a = some o
  | _, _, _, .none, a, m => by simp at m
  | _, _, _, .bool _, a, m => by simp at m
  | _, _, _, .int _ _, a, m => by simp at m
  | _, _, _, .str _ _, a, m => by simp at m
  | _, _, _, .list e _ _ r, a, m => by
    rcases List.mem_cons.mp m with rfl | m
    · exact ⟨_, e⟩
    · exact readsAll_there r a m
  | _, _, _, .tuple e _ _ r, a, m => readsAll_there r a m
  | _, _, _, .dict e _ _ r r', a, m => by
    rcases List.mem_append.mp m with m | m
    · rcases List.mem_cons.mp m with rfl | m
      · exact ⟨_, e⟩
      · exact readsAll_there r a m
    · exact readsAll_there r' a m
theorem readsAll_there {h : Heap} : ∀ {vs : List Value} {ds : List PyData} {as : List Addr}, ReadsAll h vs ds as → ∀ a ∈ as, ∃ o, h.get? a = some o
  | _, _, _, .nil, a, m => by simp at m
  | _, _, _, .cons r t, a, m => by
    rcases List.mem_append.mp m with m | m
    · exact reads_there r a m
    · exact readsAll_there t a m
end
section
variable {X : Cx} {pins : List (Addr × Obj)} {σ : L2.St} {H : Hp}
theorem sort_call (hu : X.A.units + 64 < cLine) {s : Shared} {acc : List Value} {ps : List (V × D)} {Q : VK} (J : Inv X pins σ H s) (rv : Vals (ps.map (·.1)) acc) (hd : ∀ p ∈ ps, Dp X.K H p.1 (toPy p.2)) (hal : PySem.W.AllAlike (ps.map fun p => toPy p.2)) (hso : PySem.W.Sortable (ps.map fun p => toPy p.2))
    (hdp : ∀ p ∈ ps, (toPy p.2).depth ≤ 60) (hz : ps.length ≤ sizeLine) (q : ∀ p, H p = none → Q (.ref p) (upd H p (.lst ((ps.mergeSort fun a b => leD a.2 b.2).map (·.1))))) :
    wpAny (model X.prog X.w) X.A.in1 (call (.builtin "list.sort") [.ref s.heap.objs.size]) (fun _ s' => EP X pins σ Q (.ref s.heap.objs.size) s') X.xe { s with heap := s.heap.push (seqObj "list" acc.toArray 0) } := by
  have hoL : (s.heap.push (seqObj "list" acc.toArray 0)).get? s.heap.objs.size = some (seqObj "list" acc.toArray 0) := Heap.get?_push_size _ rfl
  have er : PySem.W.EachIs (fun v (p : V × D) => ∃ as, Reads (s.heap.push (seqObj "list" acc.toArray 0)) v (toPy p.2) as ∧ s.heap.objs.size ∉ as) acc ps := (each_reads J rv hd).mono fun v p ⟨as, r⟩ =>
    ⟨as, PyProof.Rows.Reads.keeps (fun b o e => Heap.get?_push_of_some _ e) r, fun m => by
      obtain ⟨o, e⟩ := reads_there r _ m
      exact absurd (Heap.lt_size e) (Nat.lt_irrefl _)⟩
  refine PySem.W.list_sort_data (enc := fun p : V × D => toPy p.2) (s := { s with heap := s.heap.push (seqObj "list" acc.toArray 0) }) hoL (each_of_vals rv) er hal hso hz (fun b hb => ?_) fun out ho he => ?_
  · have := hdp b hb
    show X.A.units + 1 + 1 + (toPy b.2).depth < cLine
    omega
  · obtain ⟨ep, he'⟩ := PyProof.Rows.sortedHeap_at (vs := acc) (out := out.toArray) hoL
    have e2 : (ps.mergeSort (PySem.W.dataLe false fun p : V × D => toPy p.2)) = ps.mergeSort fun a b => leD a.2 b.2 := rfl
    rw [e2] at he
    refine ⟨.ref s.heap.objs.size, upd H s.heap.objs.size (.lst ((ps.mergeSort fun a b => leD a.2 b.2).map (·.1))), J.laid (t' := s.toks) (fun b u e => ?_) (Nat.le_refl _) ⟨?_, out, ep, vals_of_each he, he'⟩, rfl, q _ (J.hok.fresh (Nat.le_refl _))⟩
    · have hb : b < s.heap.objs.size := Heap.lt_size e
      show (PyProof.Rows.sortedHeap (s.heap.push (seqObj "list" acc.toArray 0)) s.heap.objs.size acc out.toArray).get? b = some u
      rw [PyProof.Rows.sortedHeap_old (Nat.ne_of_lt hb) (by rw [size_push']; exact Nat.lt_succ_of_lt hb)]
      exact Heap.get?_push_of_some _ e
    · rw [List.length_map, List.length_mergeSort]
      exact hz
/-- sorted(x) behind its items -/
theorem sorted_of (hu : X.A.units + 64 < cLine) {s : Shared} {v : Value} {Q : VK}
    (h : ∀ {R : List Value → Shared → Prop}, (∀ (h' : Heap) (tk : Nat) (acc : List Value), (∃ (H' : Hp) (ps : List (V × D)), Inv X pins σ H' { s with heap := h', toks := tk } ∧ Vals (ps.map (·.1)) acc ∧ (∀ p ∈ ps, Dp X.K H' p.1 (toPy p.2)) ∧ PySem.W.AllAlike (ps.map fun p => toPy p.2) ∧
        PySem.W.Sortable (ps.map fun p => toPy p.2) ∧ (∀ p ∈ ps, (toPy p.2).depth ≤ 60) ∧ ps.length ≤ sizeLine ∧ ∀ p, H' p = none → Q (.ref p) (upd H' p (.lst ((ps.mergeSort fun a b => leD a.2 b.2).map (·.1))))) → R acc { s with heap := h', toks := tk }) →
      wpAny (model X.prog X.w) X.A.in1 (collect v) R X.xe s) :
    wpAny (model X.prog X.w) X.A (call (.builtin "sorted") [v]) (EP X pins σ Q) X.xe s := by
  refine Calls.call_function_entry PyProof.Rows.kind_sorted PyProof.Rows.plain_sorted PyProof.Rows.entry_sorted (PyProof.Rows.args_sorted1 _) ?_
  unfold Builtin.«sorted»
  refine wpAny_bind (m := checkCount "sorted" 1 1 _) (wpAny_pure ?_)
  refine wpAny_bind (h fun h' tk acc ⟨H', ps, J, rv, hd, hal, hso, hdp, hz, q⟩ => ?_)
  refine wpAny_bind (wpAny_newList ?_ (by rw [← rv.length, List.length_map]; exact hz))
  refine wpAny_bind (wpAny_holding (wpAny_mono (sort_call hu J rv hd hal hso hdp hz q) (fun _ s' x => ?_) fun _ _ e => e))
  exact wpAny_pure ⟨_, rfl, x⟩
end
/-! ### what a sort asks, by data -/
theorem sort_facts {K : PySem.W.Frag} {H : Hp} {Z : Zs} {ps : List (V × D)} {ds : List D} (hall : ∀ p ∈ ps, Is K H Z p.2 p.1) (e : ps.map (·.2) = ds) (hc : sortOk ds = true) :
    (∀ p ∈ ps, Dp K H p.1 (toPy p.2)) ∧ PySem.W.AllAlike (ps.map fun p => toPy p.2) ∧ PySem.W.Sortable (ps.map fun p => toPy p.2) ∧ (∀ p ∈ ps, (toPy p.2).depth ≤ 60) ∧
      (ps.mergeSort fun a b => leD a.2 b.2).map (·.2) = sortD ds ∧ (∀ p ∈ ps.mergeSort (fun a b => leD a.2 b.2), Is K H Z p.2 p.1) ∧ flatL (sortD ds) = true := by
  unfold sortOk at hc
  simp only [Bool.and_eq_true] at hc
  obtain ⟨⟨⟨h1, h2⟩, h3⟩, h4⟩ := hc
  have mem : ∀ p ∈ ps, p.2 ∈ ds := fun p m => by rw [← e]; exact List.mem_map_of_mem m
  have e2 : ps.map (fun p => toPy p.2) = ds.map toPy := by rw [← e, List.map_map]; rfl
  refine ⟨fun p m => (hall p m).dp (pyOkL_iff.mp h1 _ (mem p m)), ?_, ?_, fun p m => depth_of (pyOkL_iff.mp h1 _ (mem p m)), ?_, fun p m => hall p ((List.mergeSort_perm _ _).mem_iff.mp m), ?_⟩
  · rw [e2]
    intro a ha' b hb'
    obtain ⟨a, ma, rfl⟩ := List.mem_map.mp ha'
    obtain ⟨b, mb, rfl⟩ := List.mem_map.mp hb'
    exact alike_of h3 a ma b mb
  · rw [e2]
    unfold sortB at h4
    rw [Bool.or_eq_true] at h4
    rcases h4 with h4 | h4
    · refine .inl fun z hz => ?_
      obtain ⟨b, mb, rfl⟩ := List.mem_map.mp hz
      have := List.all_eq_true.mp h4 b mb
      match b, this with
      | .tup (y :: r), _ => exact ⟨toPy y, toPyL r, rfl⟩
    · refine .inr fun z hz => ?_
      obtain ⟨b, mb, rfl⟩ := List.mem_map.mp hz
      have := List.all_eq_true.mp h4 b mb
      cases b <;> simp [toPy, noTupB] at this ⊢
  · unfold sortD
    rw [List.map_mergeSort (s := leD) (fun a _ b _ => rfl), e]
  · rw [flatL_iff] at h2 ⊢
    exact fun d m => h2 d ((List.mergeSort_perm _ _).mem_iff.mp m)
theorem vals_at : ∀ {xs : List V} {us : List Value}, xs.length = us.length → (∀ (j : Nat) (v : Value), us[j]? = some v → ∃ x, xs[j]? = some x ∧ RelV x v) → Vals xs us
  | [], [], _, _ => .nil
  | [], _ :: _, h, _ => by simp at h
  | _ :: _, [], h, _ => by simp at h
  | x :: xs, u :: us, h, q => by
    obtain ⟨x', e, r⟩ := q 0 u rfl
    cases e
    exact .cons r (vals_at (by simpa using h) fun j v e => q (j + 1) v e)
/-! ### sorted(d) -/
def keyPs (kvs : List (Key × V)) : List (V × D) := kvs.map fun q => (kV q.1, kD q.1)
def rSortK : List V → Hp → VK → Prop := fun xs H Q => ∃ (a : Addr) (kvs : List (Key × V)), xs = [.ref a] ∧ L2.Rd H a (.dK kvs) ∧ (∀ p ∈ keyPs kvs, p.1 = p.1) ∧ PySem.W.AllAlike ((keyPs kvs).map fun p => toPy p.2) ∧ PySem.W.Sortable ((keyPs kvs).map fun p => toPy p.2) ∧
  (∀ p ∈ keyPs kvs, (toPy p.2).depth ≤ 60) ∧ ∀ p, H p = none → Q (.ref p) (upd H p (.lst (((keyPs kvs).mergeSort fun a b => leD a.2 b.2).map (·.1))))
theorem key_dp {K : PySem.W.Frag} {H : Hp} : ∀ k : Key, Dp K H (kV k) (toPy (kD k))
  | .inl i => .int i
  | .inr x => by
    have e : toPy (kD (.inr x)) = .str x := by show PyData.str (ofT x.cps.toList) = _; rw [ofT_cps]
    rw [e]
    exact .str x
theorem call_sortedK {X : Cx} (hu : X.A.units + 64 < cLine) (hcalm : X.calm = true) : CallR X (.builtin "sorted") rSortK := by
  intro pins s σ H xs us Q I r q
  obtain ⟨a, kvs, ex, hd, _, hal, hso, hdp, q⟩ := q
  subst ex
  obtain ⟨u, eu, rx⟩ := vals1 r
  subst eu
  cases rx
  obtain ⟨z, lo, vs, rel, dd⟩ := dk_rd I.hok hd
  obtain ⟨ep, hat⟩ := dd.dictAt
  have hkeys := rel.keys
  have hl : vs.length = kvs.length := by
    have e := congrArg List.length hkeys
    rw [List.length_map, List.length_map] at e
    exact e.symm
  refine sorted_of hu fun {R} done => ?_
  refine PySem.W.kdu_collect (A := X.A.in1) (PySem.W.kdl_dict (knd := mixKind X.prog X.w) (kvs := vs) (ep := ep) lo) (I.ok.hd hcalm) hat (by rw [hl]; exact z) fun h' tk acc hk hacc => ?_
  refine done h' tk acc.toList ⟨H, keyPs kvs, I.kept hk, vals_at ?_ fun j v e => ?_, fun p m => ?_, hal, hso, hdp, by rw [keyPs, List.length_map]; exact z, q⟩
  · have e1 : acc.toList.length = vs.length := by rw [Array.length_toList]; exact hacc.1
    rw [List.length_map, keyPs, List.length_map, e1, hl]
  · obtain ⟨k, x, e1, e2⟩ := hacc.2 j v (by rw [← Array.getElem?_toList]; exact e)
    have e3 : (kvs.map (·.1))[j]? = some k := by rw [hkeys, List.getElem?_map, e1]; all_goals rfl
    rw [List.getElem?_map] at e3
    cases e4 : kvs[j]? with
    | none => rw [e4] at e3; cases e3
    | some y =>
      rw [e4] at e3
      have e5 : y.1 = k := Option.some.inj e3
      refine ⟨kV y.1, ?_, ?_⟩
      · rw [keyPs, List.map_map, List.getElem?_map, e4]; rfl
      · rw [e5]
        exact relV_key (show keyIs k v = true from e2)
  · obtain ⟨q, _, rfl⟩ := List.mem_map.mp m
    exact key_dp q.1
def sortG (a : D) : R D := match a with
  | .dic 0 ks _ => ifR (sortOk ks) (.ok (.lst (sortD ks)))
  | .dic _ _ _ => .bad
  | a => sortedG a
def rSortH (K : PySem.W.Frag) : List V → Hp → VK → Prop := fun xs H Q => rSortG K xs H Q ∨ rSortK xs H Q
theorem call_sortedH {X : Cx} (hu : X.A.units + 64 < cLine) (hc : X.calm = true) : CallR X (.builtin "sorted") (rSortH X.K) := (call_sortedG hu hc).or (call_sortedK hu hc)
theorem nox_sort (a : D) : Nox (sortG a) := by
  unfold sortG
  split
  · exact nox_if nox_ok
  · exact nox_bad
  · exact nox_sorted _
theorem key_is {K : PySem.W.Frag} {H : Hp} {Z : Zs} : ∀ {k : Key}, keyOk k → Is K H Z (kD k) (kV k)
  | .inl i, _ => rfl
  | .inr x, h => ⟨by show V.str x = _; rw [ofT_cps], h⟩
theorem p1_sortH {K : PySem.W.Frag} : P1 K (fun x H Q => rSortH K [x] H Q) sortG 3 := by
  intro H Z d x Q zd hx q
  cases d with
  | dic r ks vs =>
    obtain ⟨a, xs, u, ea, za, hu, dh, rv⟩ := hx
    match r, dh with
    | 0, ⟨kvs, eu, ek, ex, ok, _⟩ =>
      subst eu ea
      have q : Ro (ifR (sortOk ks) (.ok (.lst (sortD ks)))) _ _ := q
      unfold ifR at q
      by_cases hc : sortOk ks = true
      · rw [if_pos hc] at q
        have hall : ∀ p ∈ keyPs kvs, Is K H Z p.2 p.1 := fun p m => by
          obtain ⟨q, mq, rfl⟩ := List.mem_map.mp m
          exact key_is (ok q mq)
        have e : (keyPs kvs).map (·.2) = ks := by rw [keyPs, List.map_map, ek]; rfl
        obtain ⟨_, f2, f3, f4, f5, f6, f7⟩ := sort_facts hall e hc
        have i := isL_of_pairs f6
        rw [f5] at i
        exact .inr ⟨a, kvs, rfl, hu, fun _ _ => rfl, f2, f3, f4, newFlat zd i f7 q⟩
      · rw [if_neg hc] at q; exact q.elim
    | 1, _ => exact q.elim
  | lst ds => exact .inl (p1_sorted H Z _ x Q zd hx q)
  | tup ds => exact q.elim
  | non => exact q.elim
  | bl _ => exact q.elim
  | int _ => exact q.elim
  | str _ => exact q.elim
  | exc _ => exact q.elim
  | scr _ => exact q.elim
/-! ### sorted(d.items()) -/
def itemPs (ts : List Addr) (es : List D) : List (V × D) := (ts.map V.ref).zip es
def rSortI (K : PySem.W.Frag) : V → Hp → VK → Prop := fun x H Q => ∃ (d : Addr) (kvs : List (Key × V)) (ds : List D), x = .ref d ∧ L2.Rd H d (.dK kvs) ∧ ds.length = kvs.length ∧ (∀ (H' : Hp), Same H H' → ∀ (j : Nat) q e, kvs[j]? = some q → ds[j]? = some e → Dp K H' q.2 (toPy e)) ∧
  PySem.W.AllAlike ((kvs.zip ds).map fun p => toPy (.tup [kD p.1.1, p.2])) ∧ (∀ p ∈ kvs.zip ds, (toPy (.tup [kD p.1.1, p.2])).depth ≤ 60) ∧
  ∀ (H' : Hp) (p : Addr) (ts : List Addr), Same H H' → H p = none → H' p = some (.lst (((itemPs ts ((kvs.zip ds).map fun p => D.tup [kD p.1.1, p.2])).mergeSort fun a b => leD a.2 b.2).map (·.1))) → Paired (fun (t : Addr) (q : Key × V) => H' t = some (.tup [kV q.1, q.2])) ts kvs → Q (.ref p) H'
def tSortI (K : PySem.W.Frag) (te : TE) : TE := fun σ H Q => te σ H fun x H1 => rSortI K x H1 Q
section
variable {X : Cx} {e : Expr} {te : TE} {p apos cpos pos : Pos}
theorem tups_laid {pins : List (Addr × Obj)} {σ : L2.St} {H : Hp} {s : Shared} {h' : Heap} {tk : Nat} {kvs : List (Key × V)} {vs : List (Key × Value)} {lo : Addr} {as : List Addr} (I : Inv X pins σ H s) (kv : KV kvs vs)
    (hlo : s.heap.objs.size ≤ lo) (hk : ∀ b o, s.heap.get? b = some o → h'.get? b = some o) (hl : as.length = vs.length) (hG : PySem.W.KdxG (mixKind X.prog X.w) vs lo h' as) :
    ∃ H' : Hp, Same H H' ∧ Paired (fun (t : Addr) (q : Key × V) => H' t = some (.tup [kV q.1, q.2])) as kvs ∧ Inv X pins σ H' { s with heap := h', toks := tk } := by
  have lk : kvs.length = vs.length := Paired.length kv
  have nd : as.Nodup := List.Pairwise.imp (fun {a b} (h : a < b) => Nat.ne_of_lt h) hG.rise
  have new : ∀ t ∈ as, H t = none := fun t ht => I.hok.fresh (Nat.le_trans hlo (Nat.le_of_lt (hG.above t ht)))
  have atP := LiI.putT_at as kvs H (by omega) nd
  have low : ∀ b o, s.heap.get? b = some o → b ∉ as := fun b o e z => absurd (Heap.lt_size e) (Nat.not_lt.mpr (Nat.le_trans hlo (Nat.le_of_lt (hG.above b z))))
  have kp : ∀ b u, H b = some u → (LiI.putT H as kvs) b = some u := fun b u e => by
    rw [LiI.putT_off as kvs _ (fun z => by rw [new b z] at e; cases e)]
    exact e
  refine ⟨LiI.putT H as kvs, kp, atP, ?_⟩
  refine I.call' (ch := []) rfl ⟨fun b o q _ _ _ => hk b o q, fun b o q _ _ _ => ⟨o.slots, hk b o q⟩, fun b o q n _ => ?_, fun b o q _ => ⟨o, hk b o q⟩, fun b xs q => kp b _ q, fun b o u q => kp b _ q, fun b ps q => ⟨#[], by rw [kp b _ q]; simp⟩⟩ (fun b u q => ?_) I.bare fun b z => by simp at z
  · rw [LiI.putT_off as kvs _ (low b o q)]
    exact n
  · by_cases hb : b ∈ as
    · obtain ⟨j, pk, e1, e2, e3⟩ := LiI.paired_ix atP hb
      rw [e3] at q
      cases q
      obtain ⟨key, k, x, f1, f2, f3⟩ := hG.pairs j b e1
      obtain ⟨qv, g1, g2, g3⟩ := LiI.paired_get kv e2
      rw [f1] at g1
      cases g1
      have rk : RelV (kV pk.1) key := by
        rw [g2]
        exact relV_key (show keyIs k key = true from f2)
      exact ⟨by show 2 ≤ sizeLine; decide, [key, x], .cons rk (.cons g3 .nil), ⟨_, f3, rfl, _, rfl⟩⟩
    · rw [LiI.putT_off as kvs _ hb] at q
      exact (I.hok b u q).stay (fun d v _ y => hk d v y) (fun d y => kp d _ y) fun d xs y => kp d _ y
/-- sorted(e.items()) -/
theorem pe_sortItems (hu : X.A.units + 64 < cLine) (hc : X.calm = true) (he : PE X e te) (hg : Gl X "sorted") (hm : X.mg "sorted" = none) (hbase : attributeBase e "items" X.env (eval e X.env) = eval e X.env := by rfl) (hline : (apos.endLine == cpos.line) = true := by rfl)
    (hs : starEach [.Call (.Attribute e "items" apos) [] [] cpos] X.env = (false, eval (.Call (.Attribute e "items" apos) [] [] cpos) X.env) :: starEach [] X.env := by rfl) :
    PE X (.Call (.Name "sorted" p) [.Call (.Attribute e "items" apos) [] [] cpos] [] pos) (tSortI X.K te) := by
  refine ⟨fun pins s σ H Q I hq => ?_⟩
  refine wpAny_Call_Name_kw (ld_blt I hg hm (show bootBuiltins "sorted" = some (.builtin "sorted") by decide +kernel) ?_)
  refine PyProof.Rows.callWith_builtin1 ?_ hs rfl
  rw [hs]
  show wpAny _ _ (spliced ((false, eval (.Call (.Attribute e "items" apos) [] [] cpos) X.env) :: backTo pos (starEach [] X.env))) _ _ s
  refine Calls.spliced_cons ?_
  refine wpAny_Call_method (T := "dict") (id := "dict.items") hbase rfl hline F.plainAttrs_dict F.slot_dict_items F.type_dict_items (thn (he.run pins s σ H _ I hq) fun u s1 ⟨x, H1, I1, rx, d, kvs, ds, ex, hd, hlen, hdp, hal, hdep, q⟩ => ?_)
  subst ex
  obtain rfl : u = Value.ref d := rx
  obtain ⟨hz, hs0, vs, kv, hdo⟩ := dk_rd I1.hok hd
  obtain ⟨ep, hat⟩ := hdo.dictAt
  have lk : kvs.length = vs.length := Paired.length kv
  have I2 : Inv X pins σ H1 { s1 with heap := s1.heap.push { cls := .type "dict_items", data := .fields #[.ref d] } } := I1.kept (t' := s1.toks) fun b ob q => Heap.get?_push_of_some _ q
  refine ⟨hdo.typeIs, hdo.mapOf.noDict, ?_⟩
  show wpAny _ _ (callWith cpos (.builtin "dict.items") [.ref d] [] []) _ X.xe s1
  refine method_meetsIn F.slot_dict_items F.entry_dict_items rfl (PySem.evalArgs_none ⟨rfl, hdo.typeIs, F.args_dict_items_1 _, _, meets_dict_items (mixKind X.prog X.w) d hs0, ⟨vs, hdo⟩, ?_⟩)
  refine Calls.spliced_nil ?_
  refine sorted_of hu fun {R} done => ?_
  refine PySem.W.kdx_collect (A := X.A.in1) (knd := mixKind X.prog X.w) (kvs := vs) (ep := ep) (I1.ok.hd hc) ⟨_, Heap.get?_push_size _ rfl, rfl, rfl⟩ (hat.push _) (by omega) fun h' tk as hk hl hG => ?_
  obtain ⟨H', k1, k2, J⟩ := tups_laid (tk := tk) I2 kv (Nat.le_refl _) hk hl hG
  have la : as.length = (kvs.zip ds).length := by rw [List.length_zip, hlen, Nat.min_self, hl, lk]
  have e1 : (itemPs as ((kvs.zip ds).map fun p => D.tup [kD p.1.1, p.2])).map (·.1) = as.map V.ref := zip_fst (by rw [List.length_map, List.length_map]; exact la)
  have e2 : (itemPs as ((kvs.zip ds).map fun p => D.tup [kD p.1.1, p.2])).map (·.2) = (kvs.zip ds).map fun p => D.tup [kD p.1.1, p.2] := zip_snd (by rw [List.length_map, List.length_map]; exact la)
  have e3 : (itemPs as ((kvs.zip ds).map fun p => D.tup [kD p.1.1, p.2])).map (fun p => toPy p.2) = (kvs.zip ds).map fun p => toPy (.tup [kD p.1.1, p.2]) := by
    have := congrArg (List.map toPy) e2
    rw [List.map_map, List.map_map] at this
    exact this
  refine done h' tk _ ⟨H', itemPs as ((kvs.zip ds).map fun p => D.tup [kD p.1.1, p.2]), J, by rw [e1]; exact LiI.vals_refs as, fun p m => ?_, by rw [e3]; exact hal, ?_, fun p m => ?_, ?_, fun p hp => ?_⟩
  · obtain ⟨j, hj⟩ := List.mem_iff_getElem?.mp m
    unfold itemPs at hj
    rw [List.getElem?_zip_eq_some, List.getElem?_map, List.getElem?_map] at hj
    obtain ⟨h1, h2⟩ := hj
    cases ha : as[j]? with
    | none => rw [ha] at h1; cases h1
    | some t =>
      cases hz2 : (kvs.zip ds)[j]? with
      | none => rw [hz2] at h2; cases h2
      | some w =>
        rw [ha] at h1
        rw [hz2] at h2
        have h1 : V.ref t = p.1 := Option.some.inj h1
        have h2 : D.tup [kD w.1.1, w.2] = p.2 := Option.some.inj h2
        rw [List.getElem?_zip_eq_some] at hz2
        obtain ⟨y, g1, g2⟩ := LiI.paired_get k2 ha
        rw [hz2.1] at g1
        cases g1
        rw [← h1, ← h2]
        exact .tup (.inl (.inl g2)) (.cons (key_dp _) (.cons (hdp H' k1 j _ _ hz2.1 hz2.2) .nil))
  · rw [e3]
    refine .inl fun z hz3 => ?_
    obtain ⟨w, _, rfl⟩ := List.mem_map.mp hz3
    exact ⟨toPy (kD w.1.1), [toPy w.2], rfl⟩
  · have m2 : p.2 ∈ (kvs.zip ds).map fun p => D.tup [kD p.1.1, p.2] := by rw [← e2]; exact List.mem_map_of_mem m
    obtain ⟨w, mw, e4⟩ := List.mem_map.mp m2
    rw [← e4]
    exact hdep w mw
  · unfold itemPs
    rw [List.length_zip, List.length_map, List.length_map, ← la, Nat.min_self, hl, ← lk]
    exact hz
  · refine q (upd H' p _) p as (k1.trans (same_new hp)) (k1.free hp) upd_same ?_
    have : ∀ {ts : List Addr} {qs : List (Key × V)}, Paired (fun (t : Addr) (q : Key × V) => H' t = some (.tup [kV q.1, q.2])) ts qs → Paired (fun (t : Addr) (q : Key × V) => upd H' p (.lst ((itemPs as ((kvs.zip ds).map fun p => D.tup [kD p.1.1, p.2])).mergeSort (fun a b => leD a.2 b.2) |>.map (·.1))) t = some (.tup [kV q.1, q.2])) ts qs := fun h => by
      induction h with
      | nil => exact .nil
      | cons r _ ih => exact .cons (same_new hp _ _ r) ih
    exact this k2
end
def tup2 (k v : D) : D := .tup [k, v]
def sortIG (a : D) : R D := match a with
  | .dic 0 ks vs => ifR (sortOk (List.zipWith tup2 ks vs)) (.ok (.lst (sortD (List.zipWith tup2 ks vs))))
  | _ => .bad
theorem nox_sortI (a : D) : Nox (sortIG a) := by
  unfold sortIG
  split
  · exact nox_if nox_ok
  · exact nox_bad
theorem p1_sortI {K : PySem.W.Frag} : P1 K (rSortI K) sortIG 3 := by
  intro H Z d x Q zd hx q
  cases d with
  | dic r ks vs =>
    obtain ⟨a, xs, u, ea, za, hu, dh, rv⟩ := hx
    match r, dh with
    | 0, ⟨kvs, eu, ek, ex, ok, _⟩ =>
      subst eu ea
      have q : Ro (ifR (sortOk (List.zipWith tup2 ks vs)) (.ok (.lst (sortD (List.zipWith tup2 ks vs))))) _ _ := q
      unfold ifR at q
      by_cases hc : sortOk (List.zipWith tup2 ks vs) = true
      · rw [if_pos hc] at q
        have lv : vs.length = kvs.length := by rw [← rv.len, ex]; simp
        have ez : (kvs.zip vs).map (fun p => D.tup [kD p.1.1, p.2]) = List.zipWith tup2 ks vs := by
          rw [ek, List.zipWith_map_left, List.zip, List.map_zipWith]
          rfl
        have at_ : ∀ {H' : Hp}, Same H H' → ∀ (j : Nat) q e, kvs[j]? = some q → vs[j]? = some e → Is K H' Z e q.2 := fun {H'} k j q e h1 h2 => by
          obtain ⟨y, g1, g2⟩ := rv.get h2
          rw [ex, List.getElem?_map, h1] at g1
          cases g1
          exact g2.keep (Kp.of_same k) fun _ z => z
        -- the items as they will stand
        have each : ∀ {H' : Hp} {ts : List Addr}, Same H H' → Paired (fun (t : Addr) (q : Key × V) => H' t = some (.tup [kV q.1, q.2])) ts kvs → ∀ p ∈ itemPs ts (List.zipWith tup2 ks vs), Is K H' Z p.2 p.1 := fun {H' ts} k pr p m => by
          obtain ⟨j, hj⟩ := List.mem_iff_getElem?.mp m
          unfold itemPs at hj
          rw [← ez, List.getElem?_zip_eq_some, List.getElem?_map, List.getElem?_map] at hj
          obtain ⟨h1, h2⟩ := hj
          cases ha : ts[j]? with
          | none => rw [ha] at h1; cases h1
          | some t =>
            cases hz2 : (kvs.zip vs)[j]? with
            | none => rw [hz2] at h2; cases h2
            | some w =>
              rw [ha] at h1
              rw [hz2] at h2
              have h1 : V.ref t = p.1 := Option.some.inj h1
              have h2 : D.tup [kD w.1.1, w.2] = p.2 := Option.some.inj h2
              rw [List.getElem?_zip_eq_some] at hz2
              obtain ⟨y, g1, g2⟩ := LiI.paired_get pr ha
              rw [hz2.1] at g1
              cases g1
              rw [← h1, ← h2]
              exact ⟨t, _, rfl, g2, _, _, rfl, key_is (ok _ (List.mem_of_getElem? hz2.1)), _, _, rfl, at_ k j _ _ hz2.1 hz2.2, rfl⟩
        unfold sortOk at hc
        have hc0 := hc
        simp only [Bool.and_eq_true] at hc
        obtain ⟨⟨⟨h1, h2⟩, h3⟩, h4⟩ := hc
        have inz : ∀ w ∈ kvs.zip vs, D.tup [kD w.1.1, w.2] ∈ List.zipWith tup2 ks vs := fun w m => by rw [← ez]; exact List.mem_map_of_mem m
        refine ⟨a, kvs, vs, rfl, hu, lv, fun H' k j q e g1 g2 => ?_, ?_, fun w m => depth_of (pyOkL_iff.mp h1 _ (inz w m)), fun H' p ts k hp hl pr => ?_⟩
        · have m : (q, e) ∈ kvs.zip vs := List.mem_of_getElem? (i := j) (by rw [List.getElem?_zip_eq_some]; exact ⟨g1, g2⟩)
          have h5 := pyOkL_iff.mp h1 _ (inz _ m)
          have h6 : pyOkL 59 [kD q.1, e] = true := h5
          have h7 : pyOk 59 e = true := pyOkL_iff.mp h6 e (by simp)
          exact (at_ k j q e g1 g2).dp h7
        · intro x hx y hy
          obtain ⟨w1, m1, rfl⟩ := List.mem_map.mp hx
          obtain ⟨w2, m2, rfl⟩ := List.mem_map.mp hy
          exact alike_of h3 _ (inz w1 m1) _ (inz w2 m2)
        · rw [ez] at hl
          have lt : ts.length = (List.zipWith tup2 ks vs).length := by rw [← ez, List.length_map, List.length_zip, lv, Nat.min_self]; exact Paired.length pr
          have e2 : (itemPs ts (List.zipWith tup2 ks vs)).map (·.2) = List.zipWith tup2 ks vs := zip_snd (by rw [List.length_map]; exact lt)
          obtain ⟨_, _, _, _, f5, f6, f7⟩ := sort_facts (each k pr) e2 hc0
          have i := isL_of_pairs f6
          rw [f5] at i
          exact q _ H' Z [p] ⟨k, fun _ z => z, fun _ z => .inl z, fun b z => dom_mono k b (zd b z)⟩ ⟨List.nodup_cons.mpr ⟨by simp, List.nodup_nil⟩, fun b m => by rw [List.mem_singleton.mp m]; exact ⟨hp, fun z => zd p z hp⟩⟩ ⟨p, _, [], rfl, rfl, hl, i.flat f7⟩
      · rw [if_neg hc] at q; exact q.elim
    | 1, _ => exact q.elim
  | _ => exact q.elim
theorem SE.sortI {K : PySem.W.Frag} {W : WX} {C : Cs} {ks : List Nat} {te : TE} {f : Env → R D} {k : Nat} (h : SE K W C ks te f k) : SE K W C ks (tSortI K te) (fun e => f e >>= sortIG) 3 := by
  have := SE.op1 (r := rSortI K) (ta := te) p1_sortI nox_sortI h
  exact this
theorem pe_sortItemsK {X : Cx} {K : PySem.W.Frag} {e : Expr} {te : TE} {p apos cpos pos : Pos} (hK : X.K = K) (hu : X.A.units + 64 < cLine) (hc : X.calm = true) (he : PE X e te) (hg : Gl X "sorted") (hm : X.mg "sorted" = none) (hbase : attributeBase e "items" X.env (eval e X.env) = eval e X.env := by rfl) (hline : (apos.endLine == cpos.line) = true := by rfl)
    (hs : starEach [.Call (.Attribute e "items" apos) [] [] cpos] X.env = (false, eval (.Call (.Attribute e "items" apos) [] [] cpos) X.env) :: starEach [] X.env := by rfl) :
    PE X (.Call (.Name "sorted" p) [.Call (.Attribute e "items" apos) [] [] cpos] [] pos) (tSortI K te) := hK ▸ pe_sortItems hu hc he hg hm hbase hline hs
end Pu

/-! PuU: what is left of a def's reading: plain conditions, by simp. -/
namespace Pu
open PySem PySem.Spec PyProof.Rows L2

theorem eq_of_ro {α : Type} {r : R α} {v : α} (h : Ro r (fun d => d = v) (fun _ => False)) : r = .ok v := by
  cases r with
  | ok a => exact congrArg R.ok h
  | ex c => exact h.elim
  | bad => exact h.elim
theorem ro_of_eq {α : Type} {r : R α} {v : α} {P : α → Prop} {E : Nat → Prop} (h : r = .ok v) (p : P v) : Ro r P E := by subst h; exact p
theorem ex_of_ro {α : Type} {r : R α} {P : α → Prop} (h : Ro r P (fun _ => False)) : ∃ v, r = .ok v ∧ P v := by
  cases r with
  | ok a => exact ⟨a, rfl, h⟩
  | ex c => exact h.elim
  | bad => exact h.elim
section
variable {α β : Type} {P : α → Prop} {E : Nat → Prop}
@[simp] theorem ro_ok {a : α} : Ro (.ok a) P E = P a := rfl
@[simp] theorem ro_bad : Ro (.bad : R α) P E = False := rfl
@[simp] theorem ro_ex {c : Nat} : Ro (.ex c : R α) P E = E c := rfl
@[simp] theorem ro_bind {r : R β} {g : β → R α} : Ro (r >>= g) P E = Ro r (fun a => Ro (g a) P E) E := by
  cases r <;> rfl
@[simp] theorem ok_bind {a : β} {g : β → R α} : (R.ok a >>= g) = g a := rfl
@[simp] theorem ro_ite {c : Prop} [Decidable c] {x y : R α} : Ro (if c then x else y) P E ↔ (c → Ro x P E) ∧ (¬ c → Ro y P E) := by
  by_cases h : c
  · simp [h]
  · simp [h]
end
section
variable {nx : Env → Prop} {rt : D → Prop} {bk ct : Env → Prop} {ex : Nat → Env → Prop}
@[simp] theorem so_nx {e : Env} : So (.nx e) nx rt bk ct ex = nx e := rfl
@[simp] theorem so_rt {d : D} : So (.rt d) nx rt bk ct ex = rt d := rfl
@[simp] theorem so_bk {e : Env} : So (.bk e) nx rt bk ct ex = bk e := rfl
@[simp] theorem so_ct {e : Env} : So (.ct e) nx rt bk ct ex = ct e := rfl
@[simp] theorem so_ex {c : Nat} {e : Env} : So (.ex c e) nx rt bk ct ex = ex c e := rfl
@[simp] theorem so_bad : So .bad nx rt bk ct ex = False := rfl
@[simp] theorem so_then {r : SR} {g : Env → SR} : So (r.then g) nx rt bk ct ex = So r (fun e => So (g e) nx rt bk ct ex) rt bk ct ex := by
  cases r <;> rfl
@[simp] theorem so_lift {α : Type} {env : Env} {r : R α} {g : α → SR} : So (liftR env r g) nx rt bk ct ex = Ro r (fun a => So (g a) nx rt bk ct ex) (fun c => ex c env) := by
  cases r <;> rfl
@[simp] theorem so_ite {c : Prop} [Decidable c] {x y : SR} : So (if c then x else y) nx rt bk ct ex ↔ (c → So x nx rt bk ct ex) ∧ (¬ c → So y nx rt bk ct ex) := by
  by_cases h : c
  · simp [h]
  · simp [h]
@[simp] theorem optS_some {e : Env} : optS (some e) = .nx e := rfl
@[simp] theorem ro_end {r : SR} {P : D → Prop} {E : Nat → Prop} : Ro (endR r) P E = So r (fun _ => P .non) P (fun _ => False) (fun _ => False) (fun c _ => E c) := by
  cases r <;> rfl
end
theorem mden_at {n np : Nat} {g : Env → SR} {ds : List D} (h : ds.length = np) : mden n np g ds = endR (g (ds.map some ++ List.replicate (n - np) none)) := by
  unfold mden; rw [if_pos h]
@[simp] theorem getV_zero {d : D} {e : Env} : getV 0 (some d :: e) = .ok d := rfl
@[simp] theorem getV_succ {i : Nat} {x : Option D} {e : Env} : getV (i + 1) (x :: e) = getV i e := rfl
@[simp] theorem lstAt_zero {ds : List D} {e : Env} : lstAt 0 (some (.lst ds) :: e) = .ok ds := rfl
@[simp] theorem lstAt_succ {i : Nat} {x : Option D} {e : Env} : lstAt (i + 1) (x :: e) = lstAt i e := rfl
@[simp] theorem setV_def {i : Nat} {d : D} {e : Env} : setV i d e = e.set i (some d) := rfl
@[simp] theorem setL_def {i : Nat} {ds : List D} {e : Env} : setL i ds e = e.set i (some (.lst ds)) := rfl
@[simp] theorem consT_def {h : D → Env → Option Env} {h2 : List D → Env → Option Env} {d : D} {r : List D} {e : Env} : consT h h2 (d :: r) e = (h d e).bind (h2 r) := rfl
@[simp] theorem nilT_def {e : Env} : nilT [] e = some e := rfl
@[simp] theorem tupT_def {n : Nat} {h : List D → Env → Option Env} {ds : List D} {e : Env} : tupT n h (.tup ds) e = if ds.length = n then h ds e else none := rfl
section
variable {P : D → Prop} {E : Nat → Prop} {PB : Bool → Prop} {PL : List D → Prop}
@[simp] theorem asB_bl {b : Bool} : asB (.bl b) = .ok b := rfl
@[simp] theorem iter_lst {ds : List D} : iterG (.lst ds) = .ok ds := rfl
@[simp] theorem iter_tup {ds : List D} : iterG (.tup ds) = .ok ds := rfl
@[simp] theorem iter_str {s : Txt} : iterG (.str s) = .ok (s.map fun c => .str [c]) := rfl
@[simp] theorem iter_scr {ns : List Int} : iterG (.scr ns) = .ok (ns.map D.int) := rfl
@[simp] theorem addI_int {i j : Int} : addI (.int i) (.int j) = .ok (.int (i + j)) := rfl
@[simp] theorem subI_int {i j : Int} : subI (.int i) (.int j) = .ok (.int (i - j)) := rfl
theorem ifR_pos {c : Bool} {r : R D} (h : c = true) : ifR c r = r := by unfold ifR; rw [if_pos h]
@[simp] theorem ro_if {c : Bool} {r : R D} : Ro (ifR c r) P E ↔ c = true ∧ Ro r P E := by
  unfold ifR
  cases c <;> simp
@[simp] theorem ro_okB {b : Bool} : Ro (okB b) P E = P (.bl b) := rfl
@[simp] theorem ro_okI {i : Int} : Ro (okI i) P E = P (.int i) := rfl
@[simp] theorem ro_mul {i j : Int} : Ro (mulI (.int i) (.int j)) P E ↔ CMulB i j ∧ P (.int (i * j)) := by
  show Ro (ifR (decide (CMulB i j)) (okI (i * j))) P E ↔ _
  simp
@[simp] theorem ro_div {i j : Int} : Ro (divI (.int i) (.int j)) P E ↔ CDivW i j ∧ P (.int (i / j)) := by
  show Ro (ifR (decide (CDivW i j)) (okI (i / j))) P E ↔ _
  simp
@[simp] theorem ro_mod {i j : Int} : Ro (modI (.int i) (.int j)) P E ↔ 0 < j ∧ P (.int (i % j)) := by
  show Ro (ifR (decide (0 < j)) (okI (i % j))) P E ↔ _
  simp
@[simp] theorem ro_pow {i j : Int} : Ro (powI (.int i) (.int j)) P E ↔ CPow i j ∧ P (.int (i ^ j.toNat)) := by
  show Ro (ifR (decide (CPow i j)) (okI (i ^ j.toNat))) P E ↔ _
  simp
@[simp] theorem ro_shl {i j : Int} : Ro (shlI (.int i) (.int j)) P E ↔ CPow i j ∧ P (.int (i * 2 ^ j.toNat)) := by
  show Ro (ifR (decide (CPow i j)) (okI (i * 2 ^ j.toNat))) P E ↔ _
  simp
@[simp] theorem ro_shr {i j : Int} : Ro (shrI (.int i) (.int j)) P E ↔ 0 ≤ j ∧ P (.int (i / 2 ^ j.toNat)) := by
  show Ro (ifR (decide (0 ≤ j)) (okI (i / 2 ^ j.toNat))) P E ↔ _
  simp
@[simp] theorem addG_int {i j : Int} : addG (.int i) (.int j) = .ok (.int (i + j)) := rfl
@[simp] theorem ro_add_str {s t : Txt} : Ro (addG (.str s) (.str t)) P E ↔ s.length + t.length ≤ sizeLine ∧ P (.str (s ++ t)) := by
  show Ro (if s.length + t.length ≤ sizeLine then R.ok (D.str (s ++ t)) else .bad) P E ↔ _
  by_cases h : s.length + t.length ≤ sizeLine <;> simp [h]
@[simp] theorem ro_own_lst {ds : List D} : Ro (own1R (.lst ds)) P E ↔ flatL ds = true ∧ P (.lst ds) := by
  show Ro (if flatL ds = true then R.ok (D.lst ds) else .bad) P E ↔ _
  by_cases h : flatL ds = true <;> simp [h]
@[simp] theorem ro_flat {d : D} : Ro (flatR d) P E ↔ flat d = true ∧ P d := by
  unfold flatR
  by_cases h : flat d = true <;> simp [h]
@[simp] theorem ro_own_tup {ds : List D} : Ro (own1R (.tup ds)) P E ↔ flatL ds = true ∧ P (.tup ds) := by
  show Ro (flatR (.tup ds)) P E ↔ _
  rw [ro_flat]; exact Iff.rfl
@[simp] theorem ro_own_str {s : Txt} : Ro (own1R (.str s)) P E = P (.str s) := rfl
@[simp] theorem flat_int {i : Int} : flat (.int i) = true := rfl
@[simp] theorem flat_str {s : Txt} : flat (.str s) = true := rfl
@[simp] theorem flat_non : flat .non = true := rfl
@[simp] theorem flat_bl {b : Bool} : flat (.bl b) = true := rfl
@[simp] theorem flat_tup {ds : List D} : flat (.tup ds) = flatL ds := rfl
@[simp] theorem flatL_nil : flatL [] = true := rfl
@[simp] theorem flatL_cons {d : D} {ds : List D} : flatL (d :: ds) = (flat d && flatL ds) := rfl
theorem flatL_map {α : Type} {f : α → D} {xs : List α} (h : ∀ x ∈ xs, flat (f x) = true) : flatL (xs.map f) = true := by
  rw [flatL_iff]
  intro d m
  obtain ⟨x, mx, rfl⟩ := List.mem_map.mp m
  exact h x mx
@[simp] theorem flatL_ints {xs : List Int} : flatL (xs.map D.int) = true := flatL_map fun _ _ => rfl
@[simp] theorem flatL_strs {xs : List Txt} : flatL (xs.map D.str) = true := flatL_map fun _ _ => rfl
@[simp] theorem ro_lst {ds : List D} : Ro (lstR ds) P E ↔ ds.length ≤ sizeLine ∧ P (.lst ds) := by
  unfold lstR
  by_cases h : ds.length ≤ sizeLine <;> simp [h]
@[simp] theorem ro_tup {ds : List D} : Ro (tupR ds) P E ↔ ds.length ≤ sizeLine ∧ P (.tup ds) := by
  unfold tupR
  by_cases h : ds.length ≤ sizeLine <;> simp [h]
@[simp] theorem ro_line {ds : List D} : Ro (compLine ds) PL E ↔ ds.length ≤ sizeLine ∧ PL ds := by
  unfold compLine
  by_cases h : ds.length ≤ sizeLine <;> simp [h]
@[simp] theorem ro_flatItems {ds : List D} : Ro (flatItems ds) PL E ↔ flatL ds = true ∧ PL ds := by
  unfold flatItems
  by_cases h : flatL ds = true <;> simp [h]
/-! ### places -/
@[simp] theorem ro_ix_lst {ds : List D} {i : Int} : Ro (ixG (.lst ds) (.int i)) P E ↔ ∃ d, atI ds i = some d ∧ P d := by
  show Ro (match atI ds i with | some d => R.ok d | none => .bad) P E ↔ _
  cases h : atI ds i <;> simp
@[simp] theorem ro_ix_tup {ds : List D} {i : Int} : Ro (ixG (.tup ds) (.int i)) P E ↔ ∃ d, atI ds i = some d ∧ P d := by
  show Ro (match atI ds i with | some d => R.ok d | none => .bad) P E ↔ _
  cases h : atI ds i <;> simp
@[simp] theorem ro_ix_scr {ns : List Int} {i : Int} : Ro (ixG (.scr ns) (.int i)) P E ↔ ∃ d, atI ns i = some d ∧ P (.int d) := by
  show Ro (match atI ns i with | some c => R.ok (.int c) | none => .bad) P E ↔ _
  cases h : atI ns i <;> simp
@[simp] theorem ro_ix_str {s : Txt} {i : Int} : Ro (ixG (.str s) (.int i)) P E ↔ s.length ≤ sizeLine ∧ ∃ c, atI s i = some c ∧ P (.str [c]) := by
  show Ro (if s.length ≤ sizeLine then match atI s i with | some c => R.ok (.str [c]) | none => .bad else .bad) P E ↔ _
  by_cases hl : s.length ≤ sizeLine
  · cases h : atI s i <;> simp [hl]
  · simp [hl]
@[simp] theorem ro_ix_dic {r : Nat} {ks vs : List D} {k : D} : Ro (ixG (.dic r ks vs) k) P E ↔ keyFor r k = true ∧ ∃ d, dget ks vs k = some d ∧ P d := by
  show Ro (if keyFor r k = true then match dget ks vs k with | some d => R.ok d | none => .bad else .bad) P E ↔ _
  by_cases hl : keyFor r k = true
  · cases h : dget ks vs k <;> simp [hl]
  · simp [hl]
@[simp] theorem at_zero {α : Type} {a : α} {r : List α} : atI (a :: r) 0 = some a := by
  unfold atI ixN
  have : (0 : Int) < ((a :: r).length : Nat) := by simp
  rw [if_pos (Int.le_refl 0), if_pos this]
  rfl
@[simp] theorem at_one {α : Type} {a b : α} {r : List α} : atI (a :: b :: r) 1 = some b := by
  unfold atI ixN
  have : (1 : Int) < ((a :: b :: r).length : Nat) := by simp; omega
  rw [if_pos (by decide), if_pos this]
  rfl
@[simp] theorem at_two {α : Type} {a b c : α} {r : List α} : atI (a :: b :: c :: r) 2 = some c := by
  unfold atI ixN
  have : (2 : Int) < ((a :: b :: c :: r).length : Nat) := by simp; omega
  rw [if_pos (by decide), if_pos this]
  rfl
@[simp] theorem at_map {α β : Type} {f : α → β} {xs : List α} {i : Int} : atI (xs.map f) i = (atI xs i).map f := by
  unfold atI
  rw [List.length_map]
  cases ixN xs.length i <;> simp
theorem at_nat {α : Type} {xs : List α} {i : Nat} : atI xs (i : Int) = xs[i]? := by
  unfold atI ixN
  by_cases h : i < xs.length
  · rw [if_pos (by omega), if_pos (by omega)]
    rfl
  · rw [if_pos (by omega), if_neg (by omega), List.getElem?_eq_none (by omega)]
    rfl
theorem at_int {α : Type} {xs : List α} {i : Int} (h : 0 ≤ i) : atI xs i = xs[i.toNat]? := by
  obtain ⟨n, rfl⟩ := Int.eq_ofNat_of_zero_le h
  exact at_nat
theorem ixN_nat {n i : Nat} (h : i < n) : ixN n (i : Int) = some i := by
  unfold ixN
  rw [if_pos (by omega), if_pos (by omega)]
  rfl
theorem at_neg1 {α : Type} {xs : List α} : atI xs (-1) = xs.getLast? := by
  unfold atI ixN
  rw [if_neg (by decide)]
  cases xs with
  | nil => rfl
  | cons a r =>
    have h1 : (-(((a :: r).length : Nat) : Int)) ≤ -1 := by rw [List.length_cons]; omega
    rw [if_pos h1, List.getLast?_eq_getElem?]
    show (a :: r)[(-1 + (((a :: r).length : Nat) : Int)).toNat]? = _
    congr 1
    rw [List.length_cons]
    omega
/-! ### numbers compared -/
@[simp] theorem lt_int' {i j : Int} : ltG (.int i) (.int j) = .ok (.bl (decide (i < j))) := rfl
@[simp] theorem gt_int' {i j : Int} : gtG (.int i) (.int j) = .ok (.bl (decide (j < i))) := rfl
@[simp] theorem le_int' {i j : Int} : leG (.int i) (.int j) = .ok (.bl (decide (i ≤ j))) := rfl
@[simp] theorem ge_int' {i j : Int} : geG (.int i) (.int j) = .ok (.bl (decide (j ≤ i))) := rfl
@[simp] theorem isN_def {a : D} : isNG a .non = .ok (.bl (decide (a = .non))) := rfl
@[simp] theorem notN_def {a : D} : notNG a .non = .ok (.bl (!decide (a = .non))) := rfl
@[simp] theorem eq_int' {i j : Int} : eqG (.int i) (.int j) = .ok (.bl (decide (i = j))) := by
  show R.ok (D.bl (PyData.eqv (.int i) (.int j))) = _
  congr 2
@[simp] theorem ne_int' {i j : Int} : neG (.int i) (.int j) = .ok (.bl (!decide (i = j))) := by
  show R.ok (D.bl (!PyData.eqv (.int i) (.int j))) = _
  congr 2
theorem ofT_eq {s t : Txt} : (ofT s == ofT t) = decide (s = t) := by
  rw [Bool.eq_iff_iff]
  simp only [beq_iff_eq, decide_eq_true_eq]
  exact ⟨ofT_inj, fun h => by rw [h]⟩
@[simp] theorem eq_str' {s t : Txt} : eqG (.str s) (.str t) = .ok (.bl (decide (s = t))) := by
  show R.ok (D.bl (PyData.eqv (.str (ofT s)) (.str (ofT t)))) = _
  rw [← ofT_eq]; rfl
@[simp] theorem ne_str' {s t : Txt} : neG (.str s) (.str t) = .ok (.bl (!decide (s = t))) := by
  show R.ok (D.bl (!PyData.eqv (.str (ofT s)) (.str (ofT t)))) = _
  rw [← ofT_eq]; rfl
@[simp] theorem eq_non_non : eqG .non .non = .ok (.bl true) := rfl
@[simp] theorem eq_int_non {i : Int} : eqG (.int i) .non = .ok (.bl false) := rfl
@[simp] theorem eq_non_int {i : Int} : eqG .non (.int i) = .ok (.bl false) := rfl
@[simp] theorem ne_non_non : neG .non .non = .ok (.bl false) := rfl
@[simp] theorem ne_int_non {i : Int} : neG (.int i) .non = .ok (.bl true) := rfl
@[simp] theorem ne_non_int {i : Int} : neG .non (.int i) = .ok (.bl true) := rfl
mutual
theorem eqv_refl : ∀ {n : Nat} {d : D}, pyOk n d = true → eqPy d d = true
  | _, .non, _ => rfl
  | _, .bl b, _ => by show (b == b) = true; simp
  | _, .int i, _ => by show (i == i) = true; simp
  | _, .str s, _ => by show (ofT s == ofT s) = true; simp
  | n + 1, .tup ds, h => eqvL_refl (n := n) h
  | n + 1, .lst ds, h => eqvL_refl (n := n) h
  | 0, .tup _, h => by cases h
  | 0, .lst _, h => by cases h
  | _, .dic _ _ _, h => by simp [pyOk] at h
  | _, .exc _, h => by simp [pyOk] at h
  | _, .scr _, h => by simp [pyOk] at h
theorem eqvL_refl : ∀ {n : Nat} {ds : List D}, pyOkL n ds = true → PyData.eqvAll (toPyL ds) (toPyL ds) = true
  | _, [], _ => rfl
  | n, d :: ds, h => by
    have h : (pyOk n d && pyOkL n ds) = true := h
    rw [Bool.and_eq_true] at h
    show (PyData.eqv (toPy d) (toPy d) && PyData.eqvAll (toPyL ds) (toPyL ds)) = true
    rw [show PyData.eqv (toPy d) (toPy d) = true from eqv_refl h.1, eqvL_refl h.2]; rfl
end
theorem eq_same {d : D} (h : pyOk 30 d = true) : eqG d d = .ok (.bl true) := by
  unfold eqG ifR
  rw [if_pos (by rw [h]; rfl), eqv_refl h]; rfl
theorem ne_same {d : D} (h : pyOk 30 d = true) : neG d d = .ok (.bl false) := by
  unfold neG ifR
  rw [if_pos (by rw [h]; rfl), eqv_refl h]; rfl
/-! ### lengths -/
@[simp] theorem ro_len_lst {ds : List D} : lenG (.lst ds) = .ok (.int ds.length) := rfl
@[simp] theorem ro_len_tup {ds : List D} : lenG (.tup ds) = .ok (.int ds.length) := rfl
@[simp] theorem ro_len_scr {ns : List Int} : lenG (.scr ns) = .ok (.int ns.length) := rfl
theorem isTy_int {i : Int} : isTy "int" (.int i) = .ok (.bl true) := rfl
@[simp] theorem asI_int {i : Int} : asI (.int i) = .ok (some i) := rfl
@[simp] theorem ro_app {ds : List D} {a : D} : Ro (appG ds [a]) PL E ↔ ds.length < sizeLine ∧ PL (ds ++ [a]) := by
  show Ro (if ds.length < sizeLine then R.ok (ds ++ [a]) else .bad) PL E ↔ _
  by_cases h : ds.length < sizeLine <;> simp [h]
@[simp] theorem lstOf_lst {ds : List D} : lstOf (.lst ds) = .ok ds := rfl
@[simp] theorem ro_put_lst {ds : List D} {i : Int} {v : D} : Ro (putG (.lst ds) (.int i) v) P E ↔ ∃ m, ixN ds.length i = some m ∧ P (.lst (ds.set m v)) := by
  show Ro (match ixN ds.length i with | some m => R.ok (.lst (ds.set m v)) | none => .bad) P E ↔ _
  cases h : ixN ds.length i <;> simp
@[simp] theorem ro_put_dic {r : Nat} {ks vs : List D} {k v : D} : Ro (putG (.dic r ks vs) k v) P E ↔ (keyFor r k = true ∧ ks.length < sizeLine) ∧ P (.dic r (dputK ks k) (dputV ks vs k v)) := by
  show Ro (if keyFor r k = true ∧ ks.length < sizeLine then R.ok (D.dic r (dputK ks k) (dputV ks vs k v)) else .bad) P E ↔ _
  by_cases h : keyFor r k = true ∧ ks.length < sizeLine <;> simp [h]
@[simp] theorem key_str {s : Txt} : keyFor 0 (.str s) = true := rfl
@[simp] theorem key_int {i : Int} : keyFor 0 (.int i) = true := rfl
end
/-! ### loops -/
section
variable {nx : Env → Prop} {rt : D → Prop} {bk ct : Env → Prop} {ex : Nat → Env → Prop}
theorem so_forL' {α : Type} {enc : α → D} {b : D → Env → SR} (I : List α → Env → Prop) : ∀ (post pre : List α) (e : Env), I pre e →
    (∀ p x q env, pre ++ post = p ++ x :: q → I p env → So (b (enc x) env) (I (p ++ [x])) rt nx (I (p ++ [x])) ex) → (∀ env, I (pre ++ post) env → nx env) → So (forL b (post.map enc) e) nx rt bk ct ex
  | [], pre, e, h0, _, hn => hn e (by rw [List.append_nil]; exact h0)
  | x :: post, pre, e, h0, hs, hn => by
    have st := hs pre x post e rfl h0
    have go : ∀ e', I (pre ++ [x]) e' → So (forL b (post.map enc) e') nx rt bk ct ex := fun e' h => so_forL' I post (pre ++ [x]) e' h (fun p y q env he => hs p y q env (by rw [← he]; simp)) (fun env h => hn env (by simpa using h))
    show So (match b (enc x) e with | .nx e' => forL b (post.map enc) e' | .ct e' => forL b (post.map enc) e' | .bk e' => .nx e' | .rt x => .rt x | .ex c e' => .ex c e' | .bad => .bad) nx rt bk ct ex
    cases hb : b (enc x) e with
    | nx e' => rw [hb] at st; exact go e' st
    | rt d => rw [hb] at st; exact st
    | bk e' => rw [hb] at st; exact st
    | ct e' => rw [hb] at st; exact go e' st
    | ex c e' => rw [hb] at st; exact st
    | bad => rw [hb] at st; exact st.elim
/-- a for by what holds ahead of each turn -/
theorem so_forL {α : Type} {xs : List α} {enc : α → D} {b : D → Env → SR} {e : Env} (I : List α → Env → Prop) (h0 : I [] e)
    (hs : ∀ p x q env, xs = p ++ x :: q → I p env → So (b (enc x) env) (I (p ++ [x])) rt nx (I (p ++ [x])) ex) (hn : ∀ env, I xs env → nx env) : So (forL b (xs.map enc) e) nx rt bk ct ex :=
  so_forL' I xs [] e h0 hs hn
theorem so_while {c : Env → R Bool} {b : Env → SR} (I : Env → Prop) (μ : Env → Nat) : ∀ (n : Nat) (e : Env), μ e < n → I e →
    (∀ e, I e → Ro (c e) (fun t => (t = true → So (b e) (fun e' => I e' ∧ μ e' < μ e) rt nx (fun e' => I e' ∧ μ e' < μ e) ex) ∧ (t = false → nx e)) (fun k => ex k e)) →
    ∃ m r, whileF c b m e = some r ∧ So r nx rt bk ct ex
  | 0, e, h, _, _ => absurd h (Nat.not_lt_zero _)
  | n + 1, e, hμ, h0, st => by
    have s := st e h0
    cases hc : c e with
    | bad => rw [hc] at s; exact s.elim
    | ex k => rw [hc] at s; exact ⟨1, .ex k e, by simp [whileF, hc], s⟩
    | ok t =>
      rw [hc] at s
      have s : (t = true → So (b e) (fun e' => I e' ∧ μ e' < μ e) rt nx (fun e' => I e' ∧ μ e' < μ e) ex) ∧ (t = false → nx e) := s
      cases t with
      | false => exact ⟨1, .nx e, by simp [whileF, hc], s.2 rfl⟩
      | true =>
        have s := s.1 rfl
        cases hb : b e with
        | nx e' =>
          rw [hb] at s
          obtain ⟨m, r, h1, h2⟩ := so_while I μ n e' (by have := s.2; omega) s.1 st
          exact ⟨m + 1, r, by simp [whileF, hc, hb, h1], h2⟩
        | ct e' =>
          rw [hb] at s
          obtain ⟨m, r, h1, h2⟩ := so_while I μ n e' (by have := s.2; omega) s.1 st
          exact ⟨m + 1, r, by simp [whileF, hc, hb, h1], h2⟩
        | bk e' => rw [hb] at s; exact ⟨1, .nx e', by simp [whileF, hc, hb], s⟩
        | rt d => rw [hb] at s; exact ⟨1, .rt d, by simp [whileF, hc, hb], s⟩
        | ex k e' => rw [hb] at s; exact ⟨1, .ex k e', by simp [whileF, hc, hb], s⟩
        | bad => rw [hb] at s; exact s.elim
/-- a while by what holds ahead of each turn, and a number that gets less -/
theorem so_whileS {c : Env → R Bool} {b : Env → SR} {e : Env} (I : Env → Prop) (μ : Env → Nat) (h0 : I e)
    (st : ∀ e, I e → Ro (c e) (fun t => (t = true → So (b e) (fun e' => I e' ∧ μ e' < μ e) rt nx (fun e' => I e' ∧ μ e' < μ e) ex) ∧ (t = false → nx e)) (fun k => ex k e)) : So (whileS c b e) nx rt bk ct ex := by
  obtain ⟨m, r, h1, h2⟩ := so_while I μ (μ e + 1) e (Nat.lt_succ_self _) h0 st (bk := bk) (ct := ct)
  rw [whileS_eq h1]
  exact h2
end
/-- a comprehension -/
theorem comp_eq {α : Type} {enc : α → D} {h : D → Env → Option Env} {c : Env → R Bool} {f : Env → R D} {e0 : Env} (p : α → Bool) (g : α → D) : ∀ {xs : List α}, (∀ x ∈ xs, ∃ e, h (enc x) e0 = some e ∧ c e = .ok (p x) ∧ (p x = true → f e = .ok (g x))) →
    compR h c f e0 (xs.map enc) = .ok ((xs.filter p).map g)
  | [], _ => rfl
  | x :: xs, hx => by
    obtain ⟨e, h1, h2, h3⟩ := hx x List.mem_cons_self
    have ih := comp_eq (h := h) (c := c) (f := f) (e0 := e0) (enc := enc) p g (xs := xs) fun y m => hx y (List.mem_cons_of_mem _ m)
    rw [List.map_cons]
    unfold compR
    rw [h1]
    simp only [h2, Pu.nox, ok_bind]
    cases hp : p x with
    | false =>
      rw [if_neg Bool.false_ne_true, ih, List.filter_cons, if_neg (by rw [hp]; simp)]
    | true =>
      rw [if_pos rfl, h3 hp, ih, List.filter_cons, if_pos hp]
      rfl
theorem comp_all {α : Type} {enc : α → D} {h : D → Env → Option Env} {f : Env → R D} {e0 : Env} (g : α → D) {xs : List α} (hx : ∀ x ∈ xs, ∃ e, h (enc x) e0 = some e ∧ f e = .ok (g x)) : compR h (fun _ => .ok true) f e0 (xs.map enc) = .ok (xs.map g) := by
  have := comp_eq (c := fun _ => .ok true) (fun _ => true) g (xs := xs) (h := h) (f := f) (e0 := e0) (enc := enc) fun x m => by
    obtain ⟨e, h1, h2⟩ := hx x m
    exact ⟨e, h1, rfl, fun _ => h2⟩
  rw [this]
  congr 2
  exact List.filter_eq_self.mpr fun _ _ => rfl
/-! ### more of the kinds -/
theorem scVs_map {α : Type} {f : α → D} {g : α → V} : ∀ {xs : List α}, (∀ x ∈ xs, scV (f x) = some (g x)) → scVs (xs.map f) = some (xs.map g)
  | [], _ => rfl
  | x :: xs, h => by
    rw [List.map_cons, List.map_cons]
    unfold scVs
    rw [h x List.mem_cons_self, scVs_map fun y m => h y (List.mem_cons_of_mem _ m)]
theorem inL_int {d : Int} {xs : List Int} : inL (.int d) (xs.map D.int) = .ok (decide (d ∈ xs)) := by
  unfold inL
  rw [scVs_map (g := V.int) fun _ _ => rfl]
  show R.ok (inV (.int d) (xs.map V.int)) = _
  congr 1
  unfold inV
  rw [Bool.eq_iff_iff]
  simp [eqV]
theorem inL_str {s : Txt} {xs : List Txt} : inL (.str s) (xs.map D.str) = .ok (decide (s ∈ xs)) := by
  unfold inL
  rw [scVs_map (g := fun s => V.str (ofT s)) fun _ _ => rfl]
  show R.ok (inV (.str (ofT s)) (xs.map fun s => V.str (ofT s))) = _
  congr 1
  unfold inV
  rw [Bool.eq_iff_iff]
  simp only [List.any_map, List.any_eq_true, decide_eq_true_eq, Function.comp]
  constructor
  · rintro ⟨t, m, h⟩
    have : (ofT t == ofT s) = true := h
    rw [ofT_eq] at this
    rw [← of_decide_eq_true this]; exact m
  · intro m
    exact ⟨s, m, by show (ofT s == ofT s) = true; simp⟩
@[simp] theorem in_lst_int {d : Int} {xs : List Int} : inG (.int d) (.lst (xs.map D.int)) = .ok (.bl (decide (d ∈ xs))) := by
  show (inL _ _ >>= fun b => okB b) = _; rw [inL_int]; rfl
@[simp] theorem in_tup_int {d : Int} {xs : List Int} : inG (.int d) (.tup (xs.map D.int)) = .ok (.bl (decide (d ∈ xs))) := by
  show (inL _ _ >>= fun b => okB b) = _; rw [inL_int]; rfl
@[simp] theorem notIn_lst_int {d : Int} {xs : List Int} : notInG (.int d) (.lst (xs.map D.int)) = .ok (.bl (!decide (d ∈ xs))) := by
  show (inL _ _ >>= fun b => okB (!b)) = _; rw [inL_int]; rfl
@[simp] theorem notIn_tup_int {d : Int} {xs : List Int} : notInG (.int d) (.tup (xs.map D.int)) = .ok (.bl (!decide (d ∈ xs))) := by
  show (inL _ _ >>= fun b => okB (!b)) = _; rw [inL_int]; rfl
@[simp] theorem in_lst_str {d : Txt} {xs : List Txt} : inG (.str d) (.lst (xs.map D.str)) = .ok (.bl (decide (d ∈ xs))) := by
  show (inL _ _ >>= fun b => okB b) = _; rw [inL_str]; rfl
@[simp] theorem in_tup_str {d : Txt} {xs : List Txt} : inG (.str d) (.tup (xs.map D.str)) = .ok (.bl (decide (d ∈ xs))) := by
  show (inL _ _ >>= fun b => okB b) = _; rw [inL_str]; rfl
@[simp] theorem notIn_lst_str {d : Txt} {xs : List Txt} : notInG (.str d) (.lst (xs.map D.str)) = .ok (.bl (!decide (d ∈ xs))) := by
  show (inL _ _ >>= fun b => okB (!b)) = _; rw [inL_str]; rfl
@[simp] theorem notIn_tup_str {d : Txt} {xs : List Txt} : notInG (.str d) (.tup (xs.map D.str)) = .ok (.bl (!decide (d ∈ xs))) := by
  show (inL _ _ >>= fun b => okB (!b)) = _; rw [inL_str]; rfl
theorem in_dic {r : Nat} {ks vs : List D} {k : D} (h : keyFor r k = true) : inG k (.dic r ks vs) = .ok (.bl (decide (k ∈ ks))) := by
  show ((if keyFor r k = true then R.ok (decide (k ∈ ks)) else .bad) >>= fun b => okB b) = _
  rw [if_pos h]; rfl
theorem notIn_dic {r : Nat} {ks vs : List D} {k : D} (h : keyFor r k = true) : notInG k (.dic r ks vs) = .ok (.bl (!decide (k ∈ ks))) := by
  show ((if keyFor r k = true then R.ok (decide (k ∈ ks)) else .bad) >>= fun b => okB (!b)) = _
  rw [if_pos h]; rfl
theorem dputK_new {ks : List D} {k : D} (h : k ∉ ks) : dputK ks k = ks ++ [k] := by unfold dputK; rw [if_neg h]
theorem dputV_new : ∀ {ks vs : List D} {k v : D}, ks.length = vs.length → k ∉ ks → dputV ks vs k v = vs ++ [v]
  | [], [], k, v, _, _ => rfl
  | [], _ :: _, k, v, h, _ => by simp at h
  | _ :: _, [], k, v, h, _ => by simp at h
  | k' :: ks, v' :: vs, k, v, h, n => by
    show (if k' = k then v :: vs else v' :: dputV ks vs k v) = _
    rw [if_neg fun z => n (by rw [z]; exact List.mem_cons_self), dputV_new (by simpa using h) fun m => n (List.mem_cons_of_mem _ m)]
    rfl
theorem inner_at {i : Nat} {n : Int} {e : Env} {ds : List D} {m : Nat} {c : D} (h : e[i]? = some (some (.lst ds))) (h1 : ixN ds.length n = some m) (h2 : ds[m]? = some c) : innerAt i (.int n) e = .ok (m, ds, c) := by
  unfold innerAt
  rw [h]
  simp only [h1, h2]
@[simp] theorem setIn_def {i : Nat} {p : Nat × List D × D} {c : D} {e : Env} : setIn i p c e = e.set i (some (.lst (p.2.1.set p.1 c))) := rfl
theorem cdiv {i j : Int} (h : 0 < j) (h2 : j < 1000000000) : CDivW i j := by
  refine ⟨h, ?_⟩
  have h0 : j.natAbs ≠ 0 := by omega
  have : j.natAbs.log2 < 30 := (Nat.log2_lt h0).mpr (by omega)
  omega
theorem cmul {i j : Int} (h : -1000000000000 < i) (h2 : i < 1000000000000) : CMulB i j := .inl (.inl ⟨by omega, by omega⟩)
theorem cmulR {i j : Int} (h : -1000000000000 < j) (h2 : j < 1000000000000) : CMulB i j := .inl (.inr ⟨by omega, by omega⟩)
/-! ### sorting what is alike -/
theorem sort_map {α : Type} {f : α → D} (xs : List α) : sortD (xs.map f) = (xs.mergeSort fun a b => leD (f a) (f b)).map f := by
  unfold sortD
  rw [List.map_mergeSort (r := fun a b => leD (f a) (f b)) (s := leD) (fun a _ b _ => rfl)]
theorem sortOk_map {α : Type} {f : α → D} {xs : List α} (h1 : ∀ x, pyOk 60 (f x) = true) (h2 : ∀ x, flat (f x) = true) (h3 : ∀ x y, PySem.W.alike (toPy (f x)) (toPy (f y)) = true) (h4 : (∀ x, isTupB (f x) = true) ∨ ∀ x, noTupB (f x) = true) : sortOk (xs.map f) = true := by
  unfold sortOk
  simp only [Bool.and_eq_true]
  refine ⟨⟨⟨?_, flatL_map fun x _ => h2 x⟩, ?_⟩, ?_⟩
  · rw [pyOkL_iff]
    intro d m
    obtain ⟨x, _, rfl⟩ := List.mem_map.mp m
    exact h1 x
  · unfold alikeB
    rw [List.all_eq_true]
    intro d m
    obtain ⟨x, _, rfl⟩ := List.mem_map.mp m
    rw [List.all_eq_true]
    intro d m
    obtain ⟨y, _, rfl⟩ := List.mem_map.mp m
    exact h3 x y
  · unfold sortB
    rw [Bool.or_eq_true, List.all_eq_true, List.all_eq_true]
    rcases h4 with h4 | h4
    · refine .inl fun d m => ?_
      obtain ⟨x, _, rfl⟩ := List.mem_map.mp m
      exact h4 x
    · refine .inr fun d m => ?_
      obtain ⟨x, _, rfl⟩ := List.mem_map.mp m
      exact h4 x
theorem sort_lst {ds : List D} (h : sortOk ds = true) : sortG (.lst ds) = .ok (.lst (sortD ds)) := by
  show ifR (sortOk ds) _ = _
  rw [ifR_pos h]
theorem sortOk_ints {xs : List Int} : sortOk (xs.map D.int) = true := sortOk_map (fun _ => rfl) (fun _ => rfl) (fun _ _ => rfl) (.inr fun _ => rfl)
@[simp] theorem tupleO_lst {ds : List D} {P : D → Prop} {E : Nat → Prop} : Ro (tupleO (.lst ds)) P E ↔ flatL ds = true ∧ P (.tup ds) := by
  show Ro (tupleG (.lst ds) >>= own1R) P E ↔ _
  show Ro (own1R (.tup ds)) P E ↔ _
  exact ro_own_tup
@[simp] theorem listO_lst {ds : List D} {P : D → Prop} {E : Nat → Prop} : Ro (listO (.lst ds)) P E ↔ flatL ds = true ∧ P (.lst ds) := by
  show Ro (own1R (.lst ds)) P E ↔ _
  exact ro_own_lst
@[simp] theorem listO_tup {ds : List D} {P : D → Prop} {E : Nat → Prop} : Ro (listO (.tup ds)) P E ↔ flatL ds = true ∧ P (.lst ds) := by
  show Ro (own1R (.lst ds)) P E ↔ _
  exact ro_own_lst
/-! ### slices -/
@[simp] theorem slO_lst {ds : List D} {lo hi : Option Int} {P : D → Prop} {E : Nat → Prop} : Ro (slO (.lst ds) lo hi) P E ↔ flatL (cutL ds lo hi) = true ∧ P (.lst (cutL ds lo hi)) := by
  show Ro (own1R (.lst (cutL ds lo hi))) P E ↔ _
  exact ro_own_lst
@[simp] theorem cut_mapI {α β : Type} {f : α → β} {xs : List α} {lo hi : Option Int} : cutL (xs.map f) lo hi = (cutL xs lo hi).map f := cut_map f xs lo hi
theorem cut_to {α : Type} {xs : List α} {k : Nat} : cutL xs none (some (k : Int)) = xs.take k := by
  unfold cutL
  rw [HT.sIx_none, HT.sIx_nat, List.drop_zero, Nat.sub_zero]
  by_cases h : k ≤ xs.length
  · rw [Nat.min_eq_left h]
  · rw [Nat.min_eq_right (by omega), List.take_length, List.take_of_length_le (by omega)]
theorem cut_from {α : Type} {xs : List α} {k : Nat} : cutL xs (some (k : Int)) none = xs.drop k := by
  unfold cutL
  rw [HT.sIx_none, HT.sIx_nat]
  by_cases h : k ≤ xs.length
  · rw [Nat.min_eq_left h, List.take_of_length_le (by simp)]
  · rw [Nat.min_eq_right (by omega), List.drop_length, List.drop_eq_nil_of_le (by omega)]; simp
end Pu

/-! PuV: a def's reading, statement by statement. -/
namespace Pu
open PySem PySem.Spec PyProof.Rows L2
section
variable {nx : Env → Prop} {rt : D → Prop} {bk ct : Env → Prop} {ex : Nat → Env → Prop} {env : Env} {G A B : Env → SR} {i : Nat} {d : D} {r : R D}
theorem so_asg (h : r = .ok d) (k : So (G (env.set i (some d))) nx rt bk ct ex) : So ((liftR env r fun d => optS (some (env.set i (some d)))).then G) nx rt bk ct ex := by
  rw [h]; exact k
theorem so_asg0 (h : r = .ok d) (k : nx (env.set i (some d))) : So (liftR env r fun d => optS (some (env.set i (some d)))) nx rt bk ct ex := by
  rw [h]; exact k
theorem so_test {c : R Bool} {b : Bool} {S T : SR} (h : c = .ok b) (k1 : b = true → So S (fun e => So (G e) nx rt bk ct ex) rt bk ct ex) (k2 : b = false → So T (fun e => So (G e) nx rt bk ct ex) rt bk ct ex) : So ((liftR env c fun b => if b = true then S else T).then G) nx rt bk ct ex := by
  rw [h, so_then]
  cases b with
  | true => exact k1 rfl
  | false => exact k2 rfl
theorem so_test0 {c : R Bool} {b : Bool} {S T : SR} (h : c = .ok b) (k1 : b = true → So S nx rt bk ct ex) (k2 : b = false → So T nx rt bk ct ex) : So (liftR env c fun b => if b = true then S else T) nx rt bk ct ex := by
  rw [h]
  cases b with
  | true => exact k1 rfl
  | false => exact k2 rfl
theorem so_ret (h : r = .ok d) (k : rt d) : So (liftR env r .rt) nx rt bk ct ex := by
  rw [h]; exact k
theorem so_go {α : Type} {q : R α} {a : α} {g : α → SR} (h : q = .ok a) (k : So (g a) nx rt bk ct ex) : So (liftR env q g) nx rt bk ct ex := by
  rw [h]; exact k
theorem so_seq {s : SR} (k : So s (fun e => So (G e) nx rt bk ct ex) rt bk ct ex) : So (s.then G) nx rt bk ct ex := by
  rw [so_then]; exact k
/-- a halt: Q holds there -/
theorem so_mid {s : SR} (Q : Env → Prop) (h : So s Q rt bk ct ex) (k : ∀ e, Q e → So (G e) nx rt bk ct ex) : So (s.then G) nx rt bk ct ex := by
  rw [so_then]
  exact h.mono k (fun _ q => q) (fun _ q => q) (fun _ q => q) (fun _ _ q => q)
theorem so_next {e : Env} (k : nx e) : So (.nx e) nx rt bk ct ex := k
theorem so_back {e : Env} (k : bk e) : So (.bk e) nx rt bk ct ex := k
theorem so_cont {e : Env} (k : ct e) : So (.ct e) nx rt bk ct ex := k
end
def innerL (ds : List D) (j : D) : R (Nat × List D × D) := innerAt 0 j [some (.lst ds)]
@[simp] theorem innerAt_zero {ds : List D} {j : D} {e : Env} : innerAt 0 j (some (.lst ds) :: e) = innerL ds j := rfl
@[simp] theorem innerAt_succ {i : Nat} {j : D} {x : Option D} {e : Env} : innerAt (i + 1) j (x :: e) = innerAt i j e := rfl
theorem innerL_ok {ds : List D} {n : Int} {m : Nat} {c : D} (h1 : ixN ds.length n = some m) (h2 : ds[m]? = some c) : innerL ds (.int n) = .ok (m, ds, c) := inner_at (i := 0) rfl h1 h2
theorem ixN_in {n : Nat} {i : Int} (h0 : 0 ≤ i) (h : i < n) : ixN n i = some i.toNat := by
  have := ixN_nat (n := n) (i := i.toNat) (by omega)
  rw [show ((i.toNat : Nat) : Int) = i by omega] at this
  exact this
/-! ### what is computed, told as an equation -/
section
variable {ds : List D} {i j : Int} {s t : Txt}
theorem mod_ok (h : 0 < j) : modI (.int i) (.int j) = .ok (.int (i % j)) := by apply eq_of_ro; simp [h]
theorem div_ok (h : CDivW i j) : divI (.int i) (.int j) = .ok (.int (i / j)) := by apply eq_of_ro; simp [h]
theorem mul_ok (h : CMulB i j) : mulI (.int i) (.int j) = .ok (.int (i * j)) := by apply eq_of_ro; simp [h]
theorem pow_ok (h : CPow i j) : powI (.int i) (.int j) = .ok (.int (i ^ j.toNat)) := by apply eq_of_ro; simp [h]
theorem shl_ok (h : CPow i j) : shlI (.int i) (.int j) = .ok (.int (i * 2 ^ j.toNat)) := by apply eq_of_ro; simp [h]
theorem shr_ok (h : 0 ≤ j) : shrI (.int i) (.int j) = .ok (.int (i / 2 ^ j.toNat)) := by apply eq_of_ro; simp [h]
theorem add_ok (h : s.length + t.length ≤ sizeLine) : addG (.str s) (.str t) = .ok (.str (s ++ t)) := by apply eq_of_ro; simp [h]
theorem ixl_ok {d : D} (h : atI ds i = some d) : ixG (.lst ds) (.int i) = .ok d := by apply eq_of_ro; simp [h]
theorem ixt_ok {d : D} (h : atI ds i = some d) : ixG (.tup ds) (.int i) = .ok d := by apply eq_of_ro; simp [h]
theorem ixs_ok {c : Nat} (h : s.length ≤ sizeLine) (h2 : atI s i = some c) : ixG (.str s) (.int i) = .ok (.str [c]) := by apply eq_of_ro; simp [h, h2]
theorem ixn_ok {ns : List Int} {c : Int} (h : atI ns i = some c) : ixG (.scr ns) (.int i) = .ok (.int c) := by apply eq_of_ro; simp [h]
theorem ixd_ok {r : Nat} {ks vs : List D} {k d : D} (h : keyFor r k = true) (h2 : dget ks vs k = some d) : ixG (.dic r ks vs) k = .ok d := by apply eq_of_ro; simp [h, h2]
theorem lst_ok (h : ds.length ≤ sizeLine) : lstR ds = .ok (.lst ds) := by apply eq_of_ro; simp [h]
theorem tup_ok (h : ds.length ≤ sizeLine) : tupR ds = .ok (.tup ds) := by apply eq_of_ro; simp [h]
@[simp] theorem tup0_ok : tupR [] = .ok (.tup []) := tup_ok (by decide)
@[simp] theorem tup1_ok {a : D} : tupR [a] = .ok (.tup [a]) := tup_ok (by show 1 ≤ sizeLine; decide)
@[simp] theorem tup2_ok {a b : D} : tupR [a, b] = .ok (.tup [a, b]) := tup_ok (by show 2 ≤ sizeLine; decide)
@[simp] theorem tup3_ok {a b c : D} : tupR [a, b, c] = .ok (.tup [a, b, c]) := tup_ok (by show 3 ≤ sizeLine; decide)
@[simp] theorem tup4_ok {a b c d : D} : tupR [a, b, c, d] = .ok (.tup [a, b, c, d]) := tup_ok (by show 4 ≤ sizeLine; decide)
@[simp] theorem lst0_ok : lstR [] = .ok (.lst []) := lst_ok (by decide)
@[simp] theorem lst1_ok {a : D} : lstR [a] = .ok (.lst [a]) := lst_ok (by show 1 ≤ sizeLine; decide)
@[simp] theorem lst2_ok {a b : D} : lstR [a, b] = .ok (.lst [a, b]) := lst_ok (by show 2 ≤ sizeLine; decide)
@[simp] theorem lst3_ok {a b c : D} : lstR [a, b, c] = .ok (.lst [a, b, c]) := lst_ok (by show 3 ≤ sizeLine; decide)
theorem flat_ok {d : D} (h : flat d = true) : flatR d = .ok d := by apply eq_of_ro; simp [h]
@[simp] theorem flatR_int : flatR (.int i) = .ok (.int i) := rfl
@[simp] theorem flatR_str : flatR (.str s) = .ok (.str s) := rfl
@[simp] theorem flatR_non : flatR .non = .ok .non := rfl
@[simp] theorem flatR_bl {b : Bool} : flatR (.bl b) = .ok (.bl b) := rfl
theorem line_ok (h : ds.length ≤ sizeLine) : compLine ds = .ok ds := by apply eq_of_ro; simp [h]
theorem items_ok (h : flatL ds = true) : flatItems ds = .ok ds := by apply eq_of_ro; simp [h]
theorem app_ok {a : D} (h : ds.length < sizeLine) : appG ds [a] = .ok (ds ++ [a]) := by apply eq_of_ro; simp [h]
theorem putl_ok {m : Nat} {v : D} (h : ixN ds.length i = some m) : putG (.lst ds) (.int i) v = .ok (.lst (ds.set m v)) := by apply eq_of_ro; simp [h]
theorem putd_ok {r : Nat} {ks vs : List D} {k v : D} (h : keyFor r k = true) (h2 : ks.length < sizeLine) : putG (.dic r ks vs) k v = .ok (.dic r (dputK ks k) (dputV ks vs k v)) := by apply eq_of_ro; simp [h, h2]
theorem tupO_ok (h : flatL ds = true) : tupleO (.lst ds) = .ok (.tup ds) := by apply eq_of_ro; simp [h]
theorem lstO_ok (h : flatL ds = true) : listO (.lst ds) = .ok (.lst ds) := by apply eq_of_ro; simp [h]
theorem lstOt_ok (h : flatL ds = true) : listO (.tup ds) = .ok (.lst ds) := by apply eq_of_ro; simp [h]
theorem cutl_ok {lo hi : Option Int} (h : flatL (cutL ds lo hi) = true) : slO (.lst ds) lo hi = .ok (.lst (cutL ds lo hi)) := by apply eq_of_ro; simp [h]
@[simp] theorem cutn_ok {ns : List Int} {lo hi : Option Int} : slO (.scr ns) lo hi = .ok (.lst ((cutL ns lo hi).map D.int)) := by
  apply eq_of_ro
  show Ro (own1R (.lst ((cutL ns lo hi).map D.int))) _ _
  simp
theorem cuts_ok {lo hi : Option Int} (h : s.length ≤ sizeLine) : slO (.str s) lo hi = .ok (.str (cutL s lo hi)) := by
  apply eq_of_ro
  show Ro ((if s.length ≤ sizeLine then R.ok (D.str (cutL s lo hi)) else .bad) >>= own1R) _ _
  rw [if_pos h]; simp
end
end Pu


namespace Pu.k29
open PySem PySem.Spec PyProof.Rows L2 Pu
def top (i : Nat) : Stmt := PySem.Challenge.pw_blotsure_k29_depths_and_tails.main.body.getD i (.Pass ⟨0, 0, 0, 0⟩)
def clsNames : List Str := []
def clsOf (K : PySem.W.Frag) (c : Nat) : Value := match clsNames[c]? with
  | some x => .ref (He.ga K x)
  | none => .none
structure Tx (K : PySem.W.Frag) (mg : Str → Option Value) : Prop where
  fun_door_to : ∃ fd, FunD K "door_to" "door_to" (defArgs (top 1)) (defBody (top 1)) (defScope (top 1)) [] [] (He.ga K "door_to") fd
  g_door_to : mg "door_to" = some (.ref (He.ga K "door_to"))
  fun_goes : ∃ fd, FunD K "goes" "goes" (defArgs (top 2)) (defBody (top 2)) (defScope (top 2)) [] [] (He.ga K "goes") fd
  g_goes : mg "goes" = some (.ref (He.ga K "goes"))
  fun_near_end : ∃ fd, FunD K "near_end" "near_end" (defArgs (top 4)) (defBody (top 4)) (defScope (top 4)) [] [] (He.ga K "near_end") fd
  g_near_end : mg "near_end" = some (.ref (He.ga K "near_end"))
  fun_depths : ∃ fd, FunD K "depths" "depths" (defArgs (top 5)) (defBody (top 5)) (defScope (top 5)) [] [] (He.ga K "depths") fd
  g_depths : mg "depths" = some (.ref (He.ga K "depths"))
  fun_nearer_door : ∃ fd, FunD K "nearer_door" "nearer_door" (defArgs (top 6)) (defBody (top 6)) (defScope (top 6)) [] [] (He.ga K "nearer_door") fd
  g_nearer_door : mg "nearer_door" = some (.ref (He.ga K "nearer_door"))
  fun_tail : ∃ fd, FunD K "tail" "tail" (defArgs (top 7)) (defBody (top 7)) (defScope (top 7)) [] [] (He.ga K "tail") fd
  g_tail : mg "tail" = some (.ref (He.ga K "tail"))
  fun__law_cell_at : ∃ fd, FunD K "_law_cell_at" "_law_cell_at" (defArgs (top 9)) (defBody (top 9)) (defScope (top 9)) [] [] (He.ga K "_law_cell_at") fd
  g__law_cell_at : mg "_law_cell_at" = some (.ref (He.ga K "_law_cell_at"))
  fun__law_whole : ∃ fd, FunD K "_law_whole" "_law_whole" (defArgs (top 10)) (defBody (top 10)) (defScope (top 10)) [] [] (He.ga K "_law_whole") fd
  g__law_whole : mg "_law_whole" = some (.ref (He.ga K "_law_whole"))
  fun__law_sign : ∃ fd, FunD K "_law_sign" "_law_sign" (defArgs (top 11)) (defBody (top 11)) (defScope (top 11)) [] [] (He.ga K "_law_sign") fd
  g__law_sign : mg "_law_sign" = some (.ref (He.ga K "_law_sign"))
  fun__law_house : ∃ fd, FunD K "_law_house" "_law_house" (defArgs (top 12)) (defBody (top 12)) (defScope (top 12)) [] [] (He.ga K "_law_house") fd
  g__law_house : mg "_law_house" = some (.ref (He.ga K "_law_house"))
  fun__law_runs : ∃ fd, FunD K "_law_runs" "_law_runs" (defArgs (top 13)) (defBody (top 13)) (defScope (top 13)) [] [] (He.ga K "_law_runs") fd
  g__law_runs : mg "_law_runs" = some (.ref (He.ga K "_law_runs"))
  fun__law_door : ∃ fd, FunD K "_law_door" "_law_door" (defArgs (top 14)) (defBody (top 14)) (defScope (top 14)) [] [] (He.ga K "_law_door") fd
  g__law_door : mg "_law_door" = some (.ref (He.ga K "_law_door"))
  fun__law_text : ∃ fd, FunD K "_law_text" "_law_text" (defArgs (top 15)) (defBody (top 15)) (defScope (top 15)) [] [] (He.ga K "_law_text") fd
  g__law_text : mg "_law_text" = some (.ref (He.ga K "_law_text"))
  fun__law_deep : ∃ fd, FunD K "_law_deep" "_law_deep" (defArgs (top 16)) (defBody (top 16)) (defScope (top 16)) [] [] (He.ga K "_law_deep") fd
  g__law_deep : mg "_law_deep" = some (.ref (He.ga K "_law_deep"))
  fun__law_first : ∃ fd, FunD K "_law_first" "_law_first" (defArgs (top 17)) (defBody (top 17)) (defScope (top 17)) [] [] (He.ga K "_law_first") fd
  g__law_first : mg "_law_first" = some (.ref (He.ga K "_law_first"))
  fun__law_tail : ∃ fd, FunD K "_law_tail" "_law_tail" (defArgs (top 18)) (defBody (top 18)) (defScope (top 18)) [] [] (He.ga K "_law_tail") fd
  g__law_tail : mg "_law_tail" = some (.ref (He.ga K "_law_tail"))
  fun_law : ∃ fd, FunD K "law" "law" (defArgs (top 19)) (defBody (top 19)) (defScope (top 19)) [] [] (He.ga K "law") fd
  g_law : mg "law" = some (.ref (He.ga K "law"))
  free_bool : mg "bool" = none
  free_enumerate : mg "enumerate" = none
  free_int : mg "int" = none
  free_isinstance : mg "isinstance" = none
  free_len : mg "len" = none
  free_list : mg "list" = none
  free_min : mg "min" = none
  free_range : mg "range" = none
  free_sorted : mg "sorted" = none
  free_str : mg "str" = none
  free_tuple : mg "tuple" = none
section
variable {P : Program} {w : World} {K : PySem.W.Frag} {mg : Str → Option Value} {base : Heap}
/-! ### door_to -/
abbrev s_door_to : Stmt := top 1
abbrev N_door_to : List Str := ["house", "room", "sign", "one", "other"]
theorem nd_door_to : N_door_to.Nodup := by decide +kernel
theorem sc_door_to : FnScope N_door_to ["house", "room", "sign"] (defScope s_door_to) := ⟨rfl, rfl, rfl, nd_door_to, rfl, by decide +kernel, by decide +kernel⟩
noncomputable def den_door_to (e : Env) : SR := (((liftR e (((((getV 0 e) >>= fun a => (.ok (.int 0)) >>= fun b => ixG a b) >>= fun a => (getV 1 e) >>= fun b => ixG a b) >>= iterG)) fun ds => forL (fun d e => (optS (tupT 2 (consT (fun d e => some (e.set 3 (some d))) (consT (fun d e => some (e.set 4 (some d))) nilT)) d e)).then fun e => (liftR e ((((getV 3 e) >>= fun a => (getV 2 e) >>= fun b => eqG a b) >>= asB)) fun b => if b = true then (liftR e (((getV 4 e) >>= flatR)) .rt) else (.nx e))) ds e)).then fun e => (liftR e ((.ok .non)) .rt))
noncomputable def m_door_to : List D → R D := mden 5 3 den_door_to
theorem cl_door_to (T : Tx K mg) : Cl P w K mg base 1 "door_to" (spD K (clsOf K) m_door_to 3 3) := by
  refine mkCl (kn := [1, 1, 1, 1, 1]) (kl := [1, 1, 1, 1, 1]) (kx := [1, 1, 1, 1, 1]) (N := N_door_to) T.fun_door_to T.g_door_to sc_door_to rfl rfl (by decide) (fun _ _ _ _ _ _ us hl => match us, hl with | [_, _, _], _ => rfl) (fun cdv A outer s H E hr => ?_)
  have hu := hr.units
  have hu1 := hu_of hr
  refine ⟨_, (pss_cons (ps_for (passes_of rfl) rfl (pi_anyK (K := K) rfl (PE.or (pe_ix (r := rIx K) ix_seq (PE.or (pe_ix (r := rIx K) ix_seq (pv 0) pe_int (fun _ _ => rfl)) (pe_dget hu1 (pv 0) pe_int (fun _ _ => rfl))) (pv 1) (fun _ _ => rfl)) (pe_dget hu1 (PE.or (pe_ix (r := rIx K) ix_seq (pv 0) pe_int (fun _ _ => rfl)) (pe_dget hu1 (pv 0) pe_int (fun _ _ => rfl))) (pv 1) (fun _ _ => rfl)))) (pg_tupK (K := K) rfl rfl (pgs_cons (pg_name (i := 3) nd_door_to rfl (by first | exact Or.inl rfl | exact Or.inr rfl)) (pgs_cons (pg_name (i := 4) nd_door_to rfl (by first | exact Or.inl rfl | exact Or.inr rfl)) pgs_nil))) (pss_one (ps_if (pt_cmpR (r := rEqD K) (op_eqD hu) (pv 3) (pv 2) (nomark _)) (pss_one (ps_ret (pv 4))) pss_nil))) (pss_one (ps_ret pe_non))), ?_⟩
  exact (SS.seq (SS.for rfl (SW.any (by decide) (SE.ix (SE.ix (SE.name 0) (SE.intC 0)) (SE.name 1))) (SG.tup (n := 2) (SGs.cons (SG.name (by decide) (by decide)) (SGs.cons (SG.name (by decide) (by decide)) SGs.nil))) (SS.ite rfl (ST.cmp (SE.op2 p2_eq nox_eq (SE.name 3) (SE.name 2))) (SS.ret rfl (SE.flat (SE.name 4)) (by decide) (by decide) (by decide)) SS.nil)) (SS.ret rfl SE.nonC (by decide) (by decide) (by decide)))
/-! ### goes -/
abbrev s_goes : Stmt := top 2
abbrev N_goes : List Str := ["house", "text", "room", "sign"]
theorem nd_goes : N_goes.Nodup := by decide +kernel
theorem sc_goes : FnScope N_goes ["house", "text"] (defScope s_goes) := ⟨rfl, rfl, rfl, nd_goes, rfl, by decide +kernel, by decide +kernel⟩
noncomputable def den_goes (e : Env) : SR := (((liftR e ((.ok (.int 0))) fun d => optS (some (e.set 2 (some d))))).then fun e => (((liftR e (((getV 1 e) >>= iterG)) fun ds => forL (fun d e => (optS (some (e.set 3 (some d)))).then fun e => (((liftR e ((((getV 0 e) >>= fun d => ((getV 2 e) >>= fun d => ((getV 3 e) >>= fun d => (.ok []) >>= fun ds => .ok (d :: ds)) >>= fun ds => .ok (d :: ds)) >>= fun ds => .ok (d :: ds)) >>= m_door_to)) fun d => optS (some (e.set 2 (some d))))).then fun e => (liftR e ((((getV 2 e) >>= fun a => (.ok .non) >>= fun b => isNG a b) >>= asB)) fun b => if b = true then (liftR e ((.ok .non)) .rt) else (.nx e)))) ds e)).then fun e => (liftR e (getV 2 e) .rt)))
noncomputable def m_goes : List D → R D := mden 4 2 den_goes
theorem cl_goes (T : Tx K mg) : Cl P w K mg base 2 "goes" (spD K (clsOf K) m_goes 2 3) := by
  refine mkCl (kn := [1, 1, 1, 1]) (kl := [1, 1, 1, 1]) (kx := [1, 1, 1, 1]) (N := N_goes) T.fun_goes T.g_goes sc_goes rfl rfl (by decide) (fun _ _ _ _ _ _ us hl => match us, hl with | [_, _], _ => rfl) (fun cdv A outer s H E hr => ?_)
  have hu := hr.units
  have hu1 := hu_of hr
  refine ⟨_, (pss_cons (ps_set (i := 2) nd_goes rfl (by first | exact Or.inl rfl | exact Or.inr rfl) pe_int) (pss_cons (ps_for (passes_of rfl) rfl (pi_anyK (K := K) rfl (pv 1)) (pg_name (i := 3) nd_goes rfl (by first | exact Or.inl rfl | exact Or.inr rfl)) (pss_cons (ps_set (i := 2) nd_goes rfl (by first | exact Or.inl rfl | exact Or.inr rfl) (pe_callD (cl_door_to T) (hr.mono (by decide)) rfl (takes_of rfl rfl rfl rfl) (pa_cons (pv 0) (pa_cons (pv 2) (pa_cons (pv 3) pa_nil))))) (pss_one (ps_if (pt_cmpR (r := rIsN) op_isN2 (pv 2) pe_non (nomark _)) (pss_one (ps_ret pe_non)) pss_nil)))) (pss_one (ps_ret (pv 2))))), ?_⟩
  exact (SS.seq (SS.asg rfl (SE.intC 0) (SG.name (by decide) (by decide))) (SS.seq (SS.for rfl (SW.any (by decide) (SE.name 1)) (SG.name (by decide) (by decide)) (SS.seq (SS.asg rfl (SA.call mden_len (SA.cons (SE.name 0) (SA.cons (SE.name 2) (SA.cons (SE.name 3) SA.nil)))) (SG.name (by decide) (by decide))) (SS.ite rfl (ST.cmp (SE.op2 p2_isN nox_isN (SE.name 2) SE.nonC)) (SS.ret rfl SE.nonC (by decide) (by decide) (by decide)) SS.nil))) (SS.retOwn (by decide) (by decide) (by decide))))
/-! ### near_end -/
abbrev s_near_end : Stmt := top 4
abbrev N_near_end : List Str := ["found", "pairs", "deep", "sign", "room"]
theorem nd_near_end : N_near_end.Nodup := by decide +kernel
theorem sc_near_end : FnScope N_near_end ["found", "pairs", "deep"] (defScope s_near_end) := ⟨rfl, rfl, rfl, nd_near_end, rfl, by decide +kernel, by decide +kernel⟩
noncomputable def den_near_end (e : Env) : SR := (((liftR e (((getV 1 e) >>= iterG)) fun ds => forL (fun d e => (optS (tupT 2 (consT (fun d e => some (e.set 3 (some d))) (consT (fun d e => some (e.set 4 (some d))) nilT)) d e)).then fun e => (liftR e (((((getV 0 e) >>= fun a => (getV 4 e) >>= fun b => ixG a b) >>= fun a => (getV 2 e) >>= fun b => eqG a b) >>= asB)) fun b => if b = true then (liftR e ((.ok (.bl true))) .rt) else (.nx e))) ds e)).then fun e => (liftR e ((.ok (.bl false))) .rt))
noncomputable def m_near_end : List D → R D := mden 5 3 den_near_end
theorem cl_near_end (T : Tx K mg) : Cl P w K mg base 1 "near_end" (spD K (clsOf K) m_near_end 3 3) := by
  refine mkCl (kn := [1, 1, 1, 1, 1]) (kl := [1, 1, 1, 1, 1]) (kx := [1, 1, 1, 1, 1]) (N := N_near_end) T.fun_near_end T.g_near_end sc_near_end rfl rfl (by decide) (fun _ _ _ _ _ _ us hl => match us, hl with | [_, _, _], _ => rfl) (fun cdv A outer s H E hr => ?_)
  have hu := hr.units
  have hu1 := hu_of hr
  refine ⟨_, (pss_cons (ps_for (passes_of rfl) rfl (pi_anyK (K := K) rfl (pv 1)) (pg_tupK (K := K) rfl rfl (pgs_cons (pg_name (i := 3) nd_near_end rfl (by first | exact Or.inl rfl | exact Or.inr rfl)) (pgs_cons (pg_name (i := 4) nd_near_end rfl (by first | exact Or.inl rfl | exact Or.inr rfl)) pgs_nil))) (pss_one (ps_if (pt_cmpR (r := rEqD K) (op_eqD hu) (PE.or (pe_ix (r := rIx K) ix_seq (pv 0) (pv 4) (fun _ _ => rfl)) (pe_dget hu1 (pv 0) (pv 4) (fun _ _ => rfl))) (pv 2) (nomark _)) (pss_one (ps_ret pe_bl)) pss_nil))) (pss_one (ps_ret pe_bl))), ?_⟩
  exact (SS.seq (SS.for rfl (SW.any (by decide) (SE.name 1)) (SG.tup (n := 2) (SGs.cons (SG.name (by decide) (by decide)) (SGs.cons (SG.name (by decide) (by decide)) SGs.nil))) (SS.ite rfl (ST.cmp (SE.op2 p2_eq nox_eq (SE.ix (SE.name 0) (SE.name 4)) (SE.name 2))) (SS.ret rfl (SE.blC true) (by decide) (by decide) (by decide)) SS.nil)) (SS.ret rfl (SE.blC false) (by decide) (by decide) (by decide)))
/-! ### depths -/
abbrev s_depths : Stmt := top 5
abbrev N_depths : List Str := ["house", "found", "pairs", "room", "deep"]
theorem nd_depths : N_depths.Nodup := by decide +kernel
theorem sc_depths : FnScope N_depths ["house"] (defScope s_depths) := ⟨rfl, rfl, rfl, nd_depths, rfl, by decide +kernel, by decide +kernel⟩
noncomputable def den_depths (e : Env) : SR := (((liftR e (((((getV 0 e) >>= fun a => (.ok (.int 0)) >>= fun b => ixG a b) >>= iterG) >>= compLine >>= fun ds => compR (fun d e => some (e.set 2 (some d))) (fun e => (.ok true)) (fun e => (.ok .non)) (wipeE e [2]) ds >>= fun ys => .ok (.lst ys))) fun d => optS (some (e.set 1 (some d))))).then fun e => (((liftR e ((((getV 0 e) >>= fun a => (.ok (.int 1)) >>= fun b => ixG a b) >>= iterG)) fun ds => forL (fun d e => (optS (some (e.set 3 (some d)))).then fun e => (liftR e ((.ok (.int 0)) >>= fun v => getV 1 e >>= fun c => (getV 3 e) >>= fun j => putG c j v) fun d => .nx (setV 1 d e))) ds e)).then fun e => (((liftR e ((.ok (.int 0))) fun d => optS (some (e.set 4 (some d))))).then fun e => (((whileS (fun e => (((getV 4 e) >>= fun a => (getV 1 e) >>= fun b => inG a b) >>= asB)) (fun e => (((liftR e (((((getV 0 e) >>= fun a => (.ok (.int 0)) >>= fun b => ixG a b) >>= fun d => (.ok []) >>= fun ds => .ok (d :: ds)) >>= enumG)) fun ds => forL (fun d e => (optS (tupT 2 (consT (fun d e => some (e.set 3 (some d))) (consT (fun d e => some (e.set 2 (some d))) nilT)) d e)).then fun e => (liftR e ((((((getV 1 e) >>= fun a => (getV 3 e) >>= fun b => ixG a b) >>= fun a => (.ok .non) >>= fun b => isNG a b) >>= asB) >>= fun b => if b = true then ((((getV 1 e) >>= fun d => ((getV 2 e) >>= fun d => ((getV 4 e) >>= fun d => (.ok []) >>= fun ds => .ok (d :: ds)) >>= fun ds => .ok (d :: ds)) >>= fun ds => .ok (d :: ds)) >>= m_near_end) >>= asB) else .ok false)) fun b => if b = true then (liftR e (((getV 4 e) >>= fun a => (.ok (.int 1)) >>= fun b => addG a b) >>= fun v => getV 1 e >>= fun c => (getV 3 e) >>= fun j => putG c j v) fun d => .nx (setV 1 d e)) else (.nx e))) ds e)).then fun e => (liftR e (getV 4 e >>= fun a => (.ok (.int 1)) >>= fun b => addI a b) fun d => .nx (setV 4 d e)))) e)).then fun e => (liftR e (getV 1 e) .rt)))))
noncomputable def m_depths : List D → R D := mden 5 1 den_depths
theorem cl_depths (T : Tx K mg) : Cl P w K mg base 2 "depths" (spD K (clsOf K) m_depths 1 3) := by
  refine mkCl (kn := [1, 1, 1, 1, 1]) (kl := [1, 1, 1, 1, 1]) (kx := [1, 1, 1, 1, 1]) (N := N_depths) T.fun_depths T.g_depths sc_depths rfl rfl (by decide) (fun _ _ _ _ _ _ us hl => match us, hl with | [_], _ => rfl) (fun cdv A outer s H E hr => ?_)
  have hu := hr.units
  have hu1 := hu_of hr
  refine ⟨_, (pss_cons (ps_setLc (i := 1) (own := [("pairs", 2)]) rfl nd_depths rfl rfl (sw_true rfl rfl rfl (by decide +kernel)) (pi_anyK (K := K) rfl (PE.or (pe_ix (r := rIx K) ix_seq (pv 0) pe_int (fun _ _ => rfl)) (pe_dget hu1 (pv 0) pe_int (fun _ _ => rfl)))) (blkOk_by (N := N_depths) (sc := defScope s_depths) (own := [("pairs", 2)]) (by decide +kernel)) (fun _ _ _ _ _ => (pg_name (i := 2) nd_depths rfl (by first | exact Or.inl rfl | exact Or.inr rfl))) (fun _ _ _ _ _ => pts_nil) (fun _ _ _ _ _ => pe_non)) (pss_cons (ps_for (passes_of rfl) rfl (pi_anyK (K := K) rfl (PE.or (pe_ix (r := rIx K) ix_seq (pv 0) pe_int (fun _ _ => rfl)) (pe_dget hu1 (pv 0) pe_int (fun _ _ => rfl)))) (pg_name (i := 3) nd_depths rfl (by first | exact Or.inl rfl | exact Or.inr rfl)) (pss_one (ps_asg pe_int (pg_sub (pv 1) (pv 3) (set_any hu1))))) (pss_cons (ps_set (i := 4) nd_depths rfl (by first | exact Or.inl rfl | exact Or.inr rfl) pe_int) (pss_cons (ps_while (passes_of rfl) (pt_cmpR (r := rInG K false) (op_inG hu1) (pv 4) (pv 1) (by with_unfolding_all rfl)) (pss_cons (ps_for (passes_of rfl) rfl (pi_enumK (K := K) rfl rfl T.free_enumerate (pa_cons (PE.or (pe_ix (r := rIx K) ix_seq (pv 0) pe_int (fun _ _ => rfl)) (pe_dget hu1 (pv 0) pe_int (fun _ _ => rfl))) pa_nil)) (pg_tupK (K := K) rfl rfl (pgs_cons (pg_name (i := 3) nd_depths rfl (by first | exact Or.inl rfl | exact Or.inr rfl)) (pgs_cons (pg_name (i := 2) nd_depths rfl (by first | exact Or.inl rfl | exact Or.inr rfl)) pgs_nil))) (pss_one (ps_if (PW.pt (pw_and (pt_cmpR (r := rIsN) op_isN2 (PE.or (pe_ix (r := rIx K) ix_seq (pv 1) (pv 3) (fun _ _ => rfl)) (pe_dget hu1 (pv 1) (pv 3) (fun _ _ => rfl))) pe_non (nomark _)) (pw_and1 (pt_val (pe_callD (cl_near_end T) (hr.mono (by decide)) rfl (takes_of rfl rfl rfl rfl) (pa_cons (pv 1) (pa_cons (pv 2) (pa_cons (pv 4) pa_nil)))))))) (pss_one (ps_asg (pe_op (r := rAddG K) op_addG (pv 4) pe_int) (pg_sub (pv 1) (pv 3) (set_any hu1)))) pss_nil))) (pss_one (ps_aug (i := 4) nd_depths rfl (by first | exact Or.inl rfl | exact Or.inr rfl) pe_int ip_addG)))) (pss_one (ps_ret (pv 1))))))), ?_⟩
  exact (SS.seq (SS.asg rfl (SE.comp (vs := [2]) (SW.two (SW.any (by decide) (SE.ix (SE.name 0) (SE.intC 0)))) (SG.name (by decide) (by decide)) (by decide) ST.yes SE.nonC (by decide)) (SG.name (by decide) (by decide))) (SS.seq (SS.for rfl (SW.any (by decide) (SE.ix (SE.name 0) (SE.intC 1))) (SG.name (by decide) (by decide)) (SS.setI rfl (by decide) rfl (SE.intC 0) (SE.name 3))) (SS.seq (SS.asg rfl (SE.intC 0) (SG.name (by decide) (by decide))) (SS.seq (SS.while rfl (ST.cmp (SE.op2 p2_in nox_in (SE.name 4) (SE.name 1))) (SS.seq (SS.for rfl (SW.enumB (by decide) (SA.cons (SE.ix (SE.name 0) (SE.intC 0)) SA.nil)) (SG.tup (n := 2) (SGs.cons (SG.name (by decide) (by decide)) (SGs.cons (SG.name (by decide) (by decide)) SGs.nil))) (SS.ite rfl (ST.and (ST.cmp (SE.op2 p2_isN nox_isN (SE.ix (SE.name 1) (SE.name 3)) SE.nonC)) (ST.val (SA.call mden_len (SA.cons (SE.name 1) (SA.cons (SE.name 2) (SA.cons (SE.name 4) SA.nil)))))) (SS.setI rfl (by decide) rfl (SE.op2 p2_addG nox_addG (SE.name 4) (SE.intC 1)) (SE.name 3)) SS.nil)) (SS.aug rfl (by decide) p2_addI nox_addI (SE.intC 1)))) (SS.retOwn (by decide) (by decide) (by decide))))))
/-! ### nearer_door -/
abbrev s_nearer_door : Stmt := top 6
abbrev N_nearer_door : List Str := ["house", "found", "room", "sign", "there"]
theorem nd_nearer_door : N_nearer_door.Nodup := by decide +kernel
theorem sc_nearer_door : FnScope N_nearer_door ["house", "found", "room"] (defScope s_nearer_door) := ⟨rfl, rfl, rfl, nd_nearer_door, rfl, by decide +kernel, by decide +kernel⟩
noncomputable def den_nearer_door (e : Env) : SR := (((liftR e (((((getV 0 e) >>= fun a => (.ok (.int 0)) >>= fun b => ixG a b) >>= fun a => (getV 2 e) >>= fun b => ixG a b) >>= iterG)) fun ds => forL (fun d e => (optS (tupT 2 (consT (fun d e => some (e.set 3 (some d))) (consT (fun d e => some (e.set 4 (some d))) nilT)) d e)).then fun e => (liftR e (((((getV 1 e) >>= fun a => (getV 4 e) >>= fun b => ixG a b) >>= fun a => (((getV 1 e) >>= fun a => (getV 2 e) >>= fun b => ixG a b) >>= fun a => (.ok (.int 1)) >>= fun b => subI a b) >>= fun b => eqG a b) >>= asB)) fun b => if b = true then (liftR e (((((getV 3 e) >>= fun d => ((getV 4 e) >>= fun d => (.ok []) >>= fun ds => .ok (d :: ds)) >>= fun ds => .ok (d :: ds)) >>= tupR) >>= flatR)) .rt) else (.nx e))) ds e)).then fun e => (liftR e (((((.ok (.str (tx ""))) >>= fun d => ((getV 2 e) >>= fun d => (.ok []) >>= fun ds => .ok (d :: ds)) >>= fun ds => .ok (d :: ds)) >>= tupR) >>= flatR)) .rt))
noncomputable def m_nearer_door : List D → R D := mden 5 3 den_nearer_door
theorem cl_nearer_door (T : Tx K mg) : Cl P w K mg base 1 "nearer_door" (spD K (clsOf K) m_nearer_door 3 3) := by
  refine mkCl (kn := [1, 1, 1, 1, 1]) (kl := [1, 1, 1, 1, 1]) (kx := [1, 1, 1, 1, 1]) (N := N_nearer_door) T.fun_nearer_door T.g_nearer_door sc_nearer_door rfl rfl (by decide) (fun _ _ _ _ _ _ us hl => match us, hl with | [_, _, _], _ => rfl) (fun cdv A outer s H E hr => ?_)
  have hu := hr.units
  have hu1 := hu_of hr
  refine ⟨_, (pss_cons (ps_for (passes_of rfl) rfl (pi_anyK (K := K) rfl (PE.or (pe_ix (r := rIx K) ix_seq (PE.or (pe_ix (r := rIx K) ix_seq (pv 0) pe_int (fun _ _ => rfl)) (pe_dget hu1 (pv 0) pe_int (fun _ _ => rfl))) (pv 2) (fun _ _ => rfl)) (pe_dget hu1 (PE.or (pe_ix (r := rIx K) ix_seq (pv 0) pe_int (fun _ _ => rfl)) (pe_dget hu1 (pv 0) pe_int (fun _ _ => rfl))) (pv 2) (fun _ _ => rfl)))) (pg_tupK (K := K) rfl rfl (pgs_cons (pg_name (i := 3) nd_nearer_door rfl (by first | exact Or.inl rfl | exact Or.inr rfl)) (pgs_cons (pg_name (i := 4) nd_nearer_door rfl (by first | exact Or.inl rfl | exact Or.inr rfl)) pgs_nil))) (pss_one (ps_if (pt_cmpR (r := rEqD K) (op_eqD hu) (PE.or (pe_ix (r := rIx K) ix_seq (pv 1) (pv 4) (fun _ _ => rfl)) (pe_dget hu1 (pv 1) (pv 4) (fun _ _ => rfl))) (pe_op op_sub (PE.or (pe_ix (r := rIx K) ix_seq (pv 1) (pv 2) (fun _ _ => rfl)) (pe_dget hu1 (pv 1) (pv 2) (fun _ _ => rfl))) pe_int) (nomark _)) (pss_one (ps_ret (pe_tup (pa_cons (pv 3) (pa_cons (pv 4) pa_nil))))) pss_nil))) (pss_one (ps_ret (pe_tup (pa_cons pe_str (pa_cons (pv 2) pa_nil)))))), ?_⟩
  exact (SS.seq (SS.for rfl (SW.any (by decide) (SE.ix (SE.ix (SE.name 0) (SE.intC 0)) (SE.name 2))) (SG.tup (n := 2) (SGs.cons (SG.name (by decide) (by decide)) (SGs.cons (SG.name (by decide) (by decide)) SGs.nil))) (SS.ite rfl (ST.cmp (SE.op2 p2_eq nox_eq (SE.ix (SE.name 1) (SE.name 4)) (SE.op2 p2_subI nox_subI (SE.ix (SE.name 1) (SE.name 2)) (SE.intC 1)))) (SS.ret rfl (SE.flat (SE.tup (SA.cons (SE.name 3) (SA.cons (SE.name 4) SA.nil)))) (by decide) (by decide) (by decide)) SS.nil)) (SS.ret rfl (SE.flat (SE.tup (SA.cons (SE.strC "" (by decide +kernel)) (SA.cons (SE.name 2) SA.nil)))) (by decide) (by decide) (by decide)))
/-! ### tail -/
abbrev s_tail : Stmt := top 7
abbrev N_tail : List Str := ["house", "text", "room", "found", "told", "sign"]
theorem nd_tail : N_tail.Nodup := by decide +kernel
theorem sc_tail : FnScope N_tail ["house", "text"] (defScope s_tail) := ⟨rfl, rfl, rfl, nd_tail, rfl, by decide +kernel, by decide +kernel⟩
noncomputable def den_tail (e : Env) : SR := (((liftR e ((((getV 0 e) >>= fun d => ((getV 1 e) >>= fun d => (.ok []) >>= fun ds => .ok (d :: ds)) >>= fun ds => .ok (d :: ds)) >>= m_goes)) fun d => optS (some (e.set 2 (some d))))).then fun e => (((liftR e ((((getV 2 e) >>= fun a => (.ok .non) >>= fun b => isNG a b) >>= asB)) fun b => if b = true then (liftR e ((.ok .non)) .rt) else (.nx e))).then fun e => (((liftR e ((((getV 0 e) >>= fun d => (.ok []) >>= fun ds => .ok (d :: ds)) >>= m_depths)) fun d => optS (some (e.set 3 (some d))))).then fun e => (((liftR e (((((getV 3 e) >>= fun a => (getV 2 e) >>= fun b => ixG a b) >>= fun a => (.ok .non) >>= fun b => isNG a b) >>= asB)) fun b => if b = true then (liftR e ((.ok .non)) .rt) else (.nx e))).then fun e => (((liftR e ((.ok (.str (tx "")))) fun d => optS (some (e.set 4 (some d))))).then fun e => (((whileS (fun e => ((((getV 3 e) >>= fun a => (getV 2 e) >>= fun b => ixG a b) >>= fun a => (.ok (.int 0)) >>= fun b => gtG a b) >>= asB)) (fun e => (((liftR e ((((getV 0 e) >>= fun d => ((getV 3 e) >>= fun d => ((getV 2 e) >>= fun d => (.ok []) >>= fun ds => .ok (d :: ds)) >>= fun ds => .ok (d :: ds)) >>= fun ds => .ok (d :: ds)) >>= m_nearer_door)) fun d => optS (tupT 2 (consT (fun d e => some (e.set 5 (some d))) (consT (fun d e => some (e.set 2 (some d))) nilT)) d e))).then fun e => (liftR e (((getV 4 e) >>= fun a => (getV 5 e) >>= fun b => addG a b)) fun d => optS (some (e.set 4 (some d)))))) e)).then fun e => (liftR e (getV 4 e) .rt)))))))
noncomputable def m_tail : List D → R D := mden 6 2 den_tail
theorem cl_tail (T : Tx K mg) : Cl P w K mg base 3 "tail" (spD K (clsOf K) m_tail 2 3) := by
  refine mkCl (kn := [1, 1, 1, 1, 1, 1]) (kl := [1, 1, 1, 1, 1, 1]) (kx := [1, 1, 1, 1, 1, 1]) (N := N_tail) T.fun_tail T.g_tail sc_tail rfl rfl (by decide) (fun _ _ _ _ _ _ us hl => match us, hl with | [_, _], _ => rfl) (fun cdv A outer s H E hr => ?_)
  have hu := hr.units
  have hu1 := hu_of hr
  refine ⟨_, (pss_cons (ps_set (i := 2) nd_tail rfl (by first | exact Or.inl rfl | exact Or.inr rfl) (pe_callD (cl_goes T) (hr.mono (by decide)) rfl (takes_of rfl rfl rfl rfl) (pa_cons (pv 0) (pa_cons (pv 1) pa_nil)))) (pss_cons (ps_if (pt_cmpR (r := rIsN) op_isN2 (pv 2) pe_non (nomark _)) (pss_one (ps_ret pe_non)) pss_nil) (pss_cons (ps_set (i := 3) nd_tail rfl (by first | exact Or.inl rfl | exact Or.inr rfl) (pe_callD (cl_depths T) (hr.mono (by decide)) rfl (takes_of rfl rfl rfl rfl) (pa_cons (pv 0) pa_nil))) (pss_cons (ps_if (pt_cmpR (r := rIsN) op_isN2 (PE.or (pe_ix (r := rIx K) ix_seq (pv 3) (pv 2) (fun _ _ => rfl)) (pe_dget hu1 (pv 3) (pv 2) (fun _ _ => rfl))) pe_non (nomark _)) (pss_one (ps_ret pe_non)) pss_nil) (pss_cons (ps_set (i := 4) nd_tail rfl (by first | exact Or.inl rfl | exact Or.inr rfl) pe_str) (pss_cons (ps_while (passes_of rfl) (pt_cmpR (r := rGtG K) (op_gtG hu) (PE.or (pe_ix (r := rIx K) ix_seq (pv 3) (pv 2) (fun _ _ => rfl)) (pe_dget hu1 (pv 3) (pv 2) (fun _ _ => rfl))) pe_int (nomark _)) (pss_cons (ps_asg (pe_callD (cl_nearer_door T) (hr.mono (by decide)) rfl (takes_of rfl rfl rfl rfl) (pa_cons (pv 0) (pa_cons (pv 3) (pa_cons (pv 2) pa_nil)))) (pg_tupK (K := K) rfl rfl (pgs_cons (pg_name (i := 5) nd_tail rfl (by first | exact Or.inl rfl | exact Or.inr rfl)) (pgs_cons (pg_name (i := 2) nd_tail rfl (by first | exact Or.inl rfl | exact Or.inr rfl)) pgs_nil)))) (pss_one (ps_set (i := 4) nd_tail rfl (by first | exact Or.inl rfl | exact Or.inr rfl) (pe_op (r := rAddG K) op_addG (pv 4) (pv 5)))))) (pss_one (ps_ret (pv 4))))))))), ?_⟩
  exact (SS.seq (SS.asg rfl (SA.call mden_len (SA.cons (SE.name 0) (SA.cons (SE.name 1) SA.nil))) (SG.name (by decide) (by decide))) (SS.seq (SS.ite rfl (ST.cmp (SE.op2 p2_isN nox_isN (SE.name 2) SE.nonC)) (SS.ret rfl SE.nonC (by decide) (by decide) (by decide)) SS.nil) (SS.seq (SS.asg rfl (SA.call mden_len (SA.cons (SE.name 0) SA.nil)) (SG.name (by decide) (by decide))) (SS.seq (SS.ite rfl (ST.cmp (SE.op2 p2_isN nox_isN (SE.ix (SE.name 3) (SE.name 2)) SE.nonC)) (SS.ret rfl SE.nonC (by decide) (by decide) (by decide)) SS.nil) (SS.seq (SS.asg rfl (SE.strC "" (by decide +kernel)) (SG.name (by decide) (by decide))) (SS.seq (SS.pre (ks := [1, 1, 1, 3, 3, 1]) (SS.while rfl (ST.cmp (SE.op2 p2_gt nox_gt (SE.ix (SE.name 3) (SE.name 2)) (SE.intC 0))) (SS.seq (SS.asg rfl (SE.to1 (SA.call mden_len (SA.cons (SE.name 0) (SA.cons (SE.name 3) (SA.cons (SE.name 2) SA.nil)))) (by decide)) (SG.tup (n := 2) (SGs.cons (SG.name (by decide) (by decide)) (SGs.cons (SG.name (by decide) (by decide)) SGs.nil)))) (SS.asg rfl (SE.op2 p2_addG nox_addG (SE.name 4) (SE.name 5)) (SG.name (by decide) (by decide))))) rfl rfl rfl rfl) (SS.retOwn (by decide) (by decide) (by decide))))))))
/-! ### _law_cell_at -/
abbrev s__law_cell_at : Stmt := top 9
abbrev N__law_cell_at : List Str := ["script", "k"]
theorem nd__law_cell_at : N__law_cell_at.Nodup := by decide +kernel
theorem sc__law_cell_at : FnScope N__law_cell_at ["script", "k"] (defScope s__law_cell_at) := ⟨rfl, rfl, rfl, nd__law_cell_at, rfl, by decide +kernel, by decide +kernel⟩
noncomputable def den__law_cell_at (e : Env) : SR := (((liftR e ((((getV 1 e) >>= fun a => ((getV 0 e) >>= lenG) >>= fun b => ltG a b) >>= asB)) fun b => if b = true then (liftR e ((((getV 0 e) >>= fun a => (getV 1 e) >>= fun b => ixG a b) >>= flatR)) .rt) else (.nx e))).then fun e => (liftR e ((.ok (.int 0))) .rt))
noncomputable def m__law_cell_at : List D → R D := mden 2 2 den__law_cell_at
theorem cl__law_cell_at (T : Tx K mg) : Cl P w K mg base 1 "_law_cell_at" (spD K (clsOf K) m__law_cell_at 2 3) := by
  refine mkCl (kn := [1, 1]) (kl := [1, 1]) (kx := [1, 1]) (N := N__law_cell_at) T.fun__law_cell_at T.g__law_cell_at sc__law_cell_at rfl rfl (by decide) (fun _ _ _ _ _ _ us hl => match us, hl with | [_, _], _ => rfl) (fun cdv A outer s H E hr => ?_)
  have hu := hr.units
  have hu1 := hu_of hr
  refine ⟨_, (pss_cons (ps_if (pt_cmpR (r := rLtG K) (op_ltG hu) (pv 1) (pe_callB (id := "len") (r := rLenG K) call_lenG rfl T.free_len (by decide +kernel) (pa_cons (pv 0) pa_nil)) (nomark _)) (pss_one (ps_ret (PE.or (pe_ix (r := rIx K) ix_seq (pv 0) (pv 1) (fun _ _ => rfl)) (pe_dget hu1 (pv 0) (pv 1) (fun _ _ => rfl))))) pss_nil) (pss_one (ps_ret pe_int))), ?_⟩
  exact (SS.seq (SS.ite rfl (ST.cmp (SE.op2 p2_lt nox_lt (SE.name 1) (SE.call1 p1_len nox_len (SE.name 0)))) (SS.ret rfl (SE.flat (SE.ix (SE.name 0) (SE.name 1))) (by decide) (by decide) (by decide)) SS.nil) (SS.ret rfl (SE.intC 0) (by decide) (by decide) (by decide)))
/-! ### _law_whole -/
abbrev s__law_whole : Stmt := top 10
abbrev N__law_whole : List Str := ["found"]
theorem nd__law_whole : N__law_whole.Nodup := by decide +kernel
theorem sc__law_whole : FnScope N__law_whole ["found"] (defScope s__law_whole) := ⟨rfl, rfl, rfl, nd__law_whole, rfl, by decide +kernel, by decide +kernel⟩
noncomputable def den__law_whole (e : Env) : SR := (liftR e ((((getV 0 e) >>= isTy "int") >>= asB >>= fun b => if b = true then (((getV 0 e) >>= isTy "bool") >>= asB >>= fun b => .ok (.bl (!b))) else .ok (.bl false))) .rt)
noncomputable def m__law_whole : List D → R D := mden 1 1 den__law_whole
theorem cl__law_whole (T : Tx K mg) : Cl P w K mg base 1 "_law_whole" (spD K (clsOf K) m__law_whole 1 3) := by
  refine mkCl (kn := [1]) (kl := [1]) (kx := [1]) (N := N__law_whole) T.fun__law_whole T.g__law_whole sc__law_whole rfl rfl (by decide) (fun _ _ _ _ _ _ us hl => match us, hl with | [_], _ => rfl) (fun cdv A outer s H E hr => ?_)
  have hu := hr.units
  have hu1 := hu_of hr
  refine ⟨_, (pss_one (ps_ret (pe_and (pe_callB (id := "isinstance") (r := rIsi K) call_isi rfl T.free_isinstance (by decide +kernel) (pa_cons (pv 0) (pa_cons (pe_bltn (v := .ty "int") rfl T.free_int (by decide +kernel) rfl) pa_nil))) (pe_one (pe_not (pe_callB (id := "isinstance") (r := rIsi K) call_isi rfl T.free_isinstance (by decide +kernel) (pa_cons (pv 0) (pa_cons (pe_bltn (v := .ty "bool") rfl T.free_bool (by decide +kernel) rfl) pa_nil)))))))), ?_⟩
  exact (SS.ret rfl (SE.andV (SE.isTy (T := "int") (by decide) (SE.name 0)) (SE.notV (SE.isTy (T := "bool") (by decide) (SE.name 0)))) (by decide) (by decide) (by decide))
/-! ### _law_sign -/
abbrev s__law_sign : Stmt := top 11
abbrev N__law_sign : List Str := ["number", "some"]
theorem nd__law_sign : N__law_sign.Nodup := by decide +kernel
theorem sc__law_sign : FnScope N__law_sign ["number"] (defScope s__law_sign) := ⟨rfl, rfl, rfl, nd__law_sign, rfl, by decide +kernel, by decide +kernel⟩
noncomputable def den__law_sign (e : Env) : SR := (((liftR e ((.ok (.str (tx " !\"#$&'()*+,-./0123456789:;<=>?@ABCDEFGHIJKLMNOPQRSTUVWXYZ[\\]^_`")))) fun d => optS (some (e.set 1 (some d))))).then fun e => (((liftR e (((getV 1 e) >>= fun a => (.ok (.str (tx "abcdefghijklmnopqrstuvwxyz{|}~"))) >>= fun b => addG a b)) fun d => optS (some (e.set 1 (some d))))).then fun e => (liftR e ((((getV 1 e) >>= fun a => ((getV 0 e) >>= fun a => (.ok (.int 94)) >>= fun b => modI a b) >>= fun b => ixG a b) >>= flatR)) .rt)))
noncomputable def m__law_sign : List D → R D := mden 2 1 den__law_sign
theorem cl__law_sign (T : Tx K mg) : Cl P w K mg base 1 "_law_sign" (spD K (clsOf K) m__law_sign 1 3) := by
  refine mkCl (kn := [1, 1]) (kl := [1, 1]) (kx := [1, 1]) (N := N__law_sign) T.fun__law_sign T.g__law_sign sc__law_sign rfl rfl (by decide) (fun _ _ _ _ _ _ us hl => match us, hl with | [_], _ => rfl) (fun cdv A outer s H E hr => ?_)
  have hu := hr.units
  have hu1 := hu_of hr
  refine ⟨_, (pss_cons (ps_set (i := 1) nd__law_sign rfl (by first | exact Or.inl rfl | exact Or.inr rfl) pe_str) (pss_cons (ps_set (i := 1) nd__law_sign rfl (by first | exact Or.inl rfl | exact Or.inr rfl) (pe_op (r := rAddG K) op_addG (pv 1) pe_str)) (pss_one (ps_ret (PE.or (pe_ix (r := rIx K) ix_seq (pv 1) (pe_op op_mod (pv 0) pe_int) (fun _ _ => rfl)) (pe_dget hu1 (pv 1) (pe_op op_mod (pv 0) pe_int) (fun _ _ => rfl))))))), ?_⟩
  exact (SS.seq (SS.asg rfl (SE.strC " !\"#$&'()*+,-./0123456789:;<=>?@ABCDEFGHIJKLMNOPQRSTUVWXYZ[\\]^_`" (by decide +kernel)) (SG.name (by decide) (by decide))) (SS.seq (SS.asg rfl (SE.op2 p2_addG nox_addG (SE.name 1) (SE.strC "abcdefghijklmnopqrstuvwxyz{|}~" (by decide +kernel))) (SG.name (by decide) (by decide))) (SS.ret rfl (SE.flat (SE.ix (SE.name 1) (SE.op2 p2_modI nox_modI (SE.name 0) (SE.intC 94)))) (by decide) (by decide) (by decide))))
/-! ### _law_house -/
abbrev s__law_house : Stmt := top 12
abbrev N__law_house : List Str := ["cells", "many", "first", "few", "doors", "k", "ends", "cell", "room", "sign", "rest", "pair", "last", "pairs"]
theorem nd__law_house : N__law_house.Nodup := by decide +kernel
theorem sc__law_house : FnScope N__law_house ["cells", "many", "first", "few"] (defScope s__law_house) := ⟨rfl, rfl, rfl, nd__law_house, rfl, by decide +kernel, by decide +kernel⟩
noncomputable def den__law_house (e : Env) : SR := (((liftR e (((((getV 1 e) >>= fun d => (.ok []) >>= fun ds => .ok (d :: ds)) >>= range1) >>= compLine >>= fun ds => compR (fun d e => some (e.set 5 (some d))) (fun e => (.ok true)) (fun e => ((.ok []) >>= lstR)) (wipeE e [5]) ds >>= fun ys => .ok (.lst ys))) fun d => optS (some (e.set 4 (some d))))).then fun e => (((liftR e (((.ok []) >>= lstR)) fun d => optS (some (e.set 6 (some d))))).then fun e => (((liftR e (((getV 0 e) >>= iterG)) fun ds => forL (fun d e => (optS (some (e.set 7 (some d)))).then fun e => (((liftR e (((getV 7 e) >>= fun a => (getV 1 e) >>= fun b => modI a b)) fun d => optS (some (e.set 8 (some d))))).then fun e => (((liftR e (((((getV 2 e) >>= fun a => (((getV 7 e) >>= fun a => (getV 1 e) >>= fun b => divI a b) >>= fun a => (getV 3 e) >>= fun b => modI a b) >>= fun b => addG a b) >>= fun d => (.ok []) >>= fun ds => .ok (d :: ds)) >>= m__law_sign)) fun d => optS (some (e.set 9 (some d))))).then fun e => (((liftR e ((((getV 7 e) >>= fun a => (getV 1 e) >>= fun b => divI a b) >>= fun a => (getV 3 e) >>= fun b => divI a b)) fun d => optS (some (e.set 10 (some d))))).then fun e => (((liftR e ((((getV 9 e) >>= fun a => ((((getV 4 e) >>= fun a => (getV 8 e) >>= fun b => ixG a b) >>= iterG >>= flatItems) >>= compLine >>= fun ds => compR (fun d e => some (e.set 11 (some d))) (fun e => (.ok true)) (fun e => ((getV 11 e) >>= fun a => (.ok (.int 0)) >>= fun b => ixG a b)) (wipeE e [11]) ds >>= fun ys => .ok (.lst ys)) >>= fun b => notInG a b) >>= asB)) fun b => if b = true then (liftR e (getV 4 e >>= fun _ => (getV 8 e) >>= fun j => innerAt 4 j e >>= fun p => lstOf p.2.2 >>= fun es => (((((getV 9 e) >>= fun d => (((getV 10 e) >>= fun a => (getV 1 e) >>= fun b => modI a b) >>= fun d => (.ok []) >>= fun ds => .ok (d :: ds)) >>= fun ds => .ok (d :: ds)) >>= tupR) >>= flatR) >>= fun d => (.ok []) >>= fun ds => .ok (d :: ds)) >>= fun as => appG es as >>= fun es => .ok (p, D.lst es)) fun q => .nx (setIn 4 q.1 q.2 e)) else (.nx e))).then fun e => (((liftR e (((((getV 10 e) >>= fun a => (getV 1 e) >>= fun b => divI a b) >>= fun a => (.ok (.int 3)) >>= fun b => divI a b) >>= fun a => (getV 1 e) >>= fun b => modI a b)) fun d => optS (some (e.set 12 (some d))))).then fun e => (liftR e (((((((getV 10 e) >>= fun a => (getV 1 e) >>= fun b => divI a b) >>= fun a => (.ok (.int 3)) >>= fun b => modI a b) >>= fun a => (.ok (.int 0)) >>= fun b => eqG a b) >>= asB) >>= fun b => if b = true then (((getV 12 e) >>= fun a => (getV 6 e) >>= fun b => notInG a b) >>= asB) else .ok false)) fun b => if b = true then (liftR e (lstAt 6 e >>= fun ds => (((getV 12 e) >>= flatR) >>= fun d => (.ok []) >>= fun ds => .ok (d :: ds)) >>= fun as => appG ds as) fun ds' => .nx (setL 6 ds' e)) else (.nx e)))))))) ds e)).then fun e => (liftR e (((((((getV 4 e) >>= iterG) >>= compLine >>= fun ds => compR (fun d e => some (e.set 13 (some d))) (fun e => (.ok true)) (fun e => (((getV 13 e) >>= sortG) >>= tupleO)) (wipeE e [13]) ds >>= fun ys => .ok (.lst ys)) >>= tupleO) >>= fun d => ((((getV 6 e) >>= sortG) >>= tupleO) >>= fun d => (.ok []) >>= fun ds => .ok (d :: ds)) >>= fun ds => .ok (d :: ds)) >>= tupR)) .rt))))
noncomputable def m__law_house : List D → R D := mden 14 4 den__law_house
theorem cl__law_house (T : Tx K mg) : Cl P w K mg base 2 "_law_house" (spD K (clsOf K) m__law_house 4 3) := by
  refine mkCl (kn := [1, 1, 1, 1, 1, 1, 1, 1, 1, 1, 1, 1, 1, 1]) (kl := [1, 1, 1, 1, 1, 1, 1, 1, 1, 1, 1, 1, 1, 1]) (kx := [1, 1, 1, 1, 1, 1, 1, 1, 1, 1, 1, 1, 1, 1]) (N := N__law_house) T.fun__law_house T.g__law_house sc__law_house rfl rfl (by decide) (fun _ _ _ _ _ _ us hl => match us, hl with | [_, _, _, _], _ => rfl) (fun cdv A outer s H E hr => ?_)
  have hu := hr.units
  have hu1 := hu_of hr
  refine ⟨_, (pss_cons (ps_setLc (i := 4) (own := [("k", 5)]) rfl nd__law_house rfl rfl (sw_true rfl rfl rfl (by decide +kernel)) (pi_range1 rfl T.free_range (pa_cons (pv 1) pa_nil)) (blkOk_by (N := N__law_house) (sc := defScope s__law_house) (own := [("k", 5)]) (by decide +kernel)) (fun _ _ _ _ _ => (pg_name (i := 5) nd__law_house rfl (by first | exact Or.inl rfl | exact Or.inr rfl))) (fun _ _ _ _ _ => pts_nil) (fun _ _ _ _ _ => (pe_lst pa_nil))) (pss_cons (ps_set (i := 6) nd__law_house rfl (by first | exact Or.inl rfl | exact Or.inr rfl) (pe_lst pa_nil)) (pss_cons (ps_for (passes_of rfl) rfl (pi_anyK (K := K) rfl (pv 0)) (pg_name (i := 7) nd__law_house rfl (by first | exact Or.inl rfl | exact Or.inr rfl)) (pss_cons (ps_set (i := 8) nd__law_house rfl (by first | exact Or.inl rfl | exact Or.inr rfl) (pe_op op_mod (pv 7) (pv 1))) (pss_cons (ps_set (i := 9) nd__law_house rfl (by first | exact Or.inl rfl | exact Or.inr rfl) (pe_callD (cl__law_sign T) (hr.mono (by decide)) rfl (takes_of rfl rfl rfl rfl) (pa_cons (pe_op (r := rAddG K) op_addG (pv 2) (pe_op op_mod (pe_op op_fdivW (pv 7) (pv 1)) (pv 3))) pa_nil))) (pss_cons (ps_set (i := 10) nd__law_house rfl (by first | exact Or.inl rfl | exact Or.inr rfl) (pe_op op_fdivW (pe_op op_fdivW (pv 7) (pv 1)) (pv 3))) (pss_cons (ps_if (pt_cmpR (r := rInG K true) (op_notInG hu1) (pv 9) (pe_lc (own := [("pair", 11)]) rfl nd__law_house (pi_anyK (K := K) rfl (PE.or (pe_ix (r := rIx K) ix_seq (pv 4) (pv 8) (fun _ _ => rfl)) (pe_dget hu1 (pv 4) (pv 8) (fun _ _ => rfl)))) (blkOk_by (N := N__law_house) (sc := defScope s__law_house) (own := [("pair", 11)]) (by decide +kernel)) (fun _ _ _ _ _ => (pg_name (i := 11) nd__law_house rfl (by first | exact Or.inl rfl | exact Or.inr rfl))) (fun _ _ _ _ _ => pts_nil) (fun _ _ _ _ _ => (PE.or (pe_ix (r := rIx K) ix_seq (pv 11) pe_int (fun _ _ => rfl)) (pe_dget hu1 (pv 11) pe_int (fun _ _ => rfl))))) (by with_unfolding_all rfl)) (pss_one (ps_expr (pe_bm PySem.F.plainAttrs_list PySem.F.slot_list_append PySem.F.type_list_append mt_append (pe_ix (r := rIx K) ix_seq (pv 4) (pv 8) (fun _ _ => rfl)) (pa_cons (pe_tup (pa_cons (pv 9) (pa_cons (pe_op op_mod (pv 10) (pv 1)) pa_nil))) pa_nil)))) pss_nil) (pss_cons (ps_set (i := 12) nd__law_house rfl (by first | exact Or.inl rfl | exact Or.inr rfl) (pe_op op_mod (pe_op op_fdivW (pe_op op_fdivW (pv 10) (pv 1)) pe_int) (pv 1))) (pss_one (ps_if (PW.pt (pw_and (pt_cmpR (r := rEqD K) (op_eqD hu) (pe_op op_mod (pe_op op_fdivW (pv 10) (pv 1)) pe_int) pe_int (nomark _)) (pw_and1 (pt_cmpR (r := rInG K true) (op_notInG hu1) (pv 12) (pv 6) (by with_unfolding_all rfl))))) (pss_one (ps_expr (pe_bm PySem.F.plainAttrs_list PySem.F.slot_list_append PySem.F.type_list_append mt_append (pv 6) (pa_cons (pv 12) pa_nil)))) pss_nil)))))))) (pss_one (ps_ret (pe_tup (pa_cons (pe_callTy (T := "tuple") (r := rTupleOf K) call_tupleK rfl T.free_tuple (by decide +kernel) (pa_cons (pe_lc (own := [("pairs", 13)]) rfl nd__law_house (pi_anyK (K := K) rfl (pv 4)) (blkOk_by (N := N__law_house) (sc := defScope s__law_house) (own := [("pairs", 13)]) (by decide +kernel)) (fun _ _ _ _ _ => (pg_name (i := 13) nd__law_house rfl (by first | exact Or.inl rfl | exact Or.inr rfl))) (fun _ _ _ _ _ => pts_nil) (fun _ _ _ _ _ => (pe_callTy (T := "tuple") (r := rTupleOf K) call_tupleK rfl T.free_tuple (by decide +kernel) (pa_cons (pe_callB (id := "sorted") (r := rSortH K) (call_sortedH hu rfl) rfl T.free_sorted (by decide +kernel) (pa_cons (pv 13) pa_nil)) pa_nil)))) pa_nil)) (pa_cons (pe_callTy (T := "tuple") (r := rTupleOf K) call_tupleK rfl T.free_tuple (by decide +kernel) (pa_cons (pe_callB (id := "sorted") (r := rSortH K) (call_sortedH hu rfl) rfl T.free_sorted (by decide +kernel) (pa_cons (pv 6) pa_nil)) pa_nil)) pa_nil)))))))), ?_⟩
  exact (SS.seq (SS.asg rfl (SE.comp (vs := [5]) (SW.two (SW.range1 (SA.cons (SE.name 1) SA.nil))) (SG.name (by decide) (by decide)) (by decide) ST.yes (SE.lst SA.nil (by decide)) (by decide)) (SG.name (by decide) (by decide))) (SS.seq (SS.asg rfl (SE.lst SA.nil (by decide)) (SG.name (by decide) (by decide))) (SS.seq (SS.for rfl (SW.any (by decide) (SE.name 0)) (SG.name (by decide) (by decide)) (SS.wk (kn' := [1, 1, 1, 1, 3, 1, 3, 1, 1, 1, 1, 1, 1, 1]) (SS.seq (SS.asg rfl (SE.op2 p2_modI nox_modI (SE.name 7) (SE.name 1)) (SG.name (by decide) (by decide))) (SS.seq (SS.asg rfl (SA.call mden_len (SA.cons (SE.op2 p2_addG nox_addG (SE.name 2) (SE.op2 p2_modI nox_modI (SE.op2 p2_divI nox_divI (SE.name 7) (SE.name 1)) (SE.name 3))) SA.nil)) (SG.name (by decide) (by decide))) (SS.seq (SS.asg rfl (SE.op2 p2_divI nox_divI (SE.op2 p2_divI nox_divI (SE.name 7) (SE.name 1)) (SE.name 3)) (SG.name (by decide) (by decide))) (SS.seq (SS.ite rfl (ST.cmp (SE.op2 p2_notIn nox_notIn (SE.name 9) (SE.comp (vs := [11]) (SW2.any (SE.ix (SE.name 4) (SE.name 8))) (SG.name (by decide) (by decide)) (by decide) ST.yes (SE.ix (SE.name 11) (SE.intC 0)) (by decide)))) (SS.mut2 rfl mut_append nox_app (by decide) rfl (SE.name 8) (SA.cons (SE.flat (SE.tup (SA.cons (SE.name 9) (SA.cons (SE.op2 p2_modI nox_modI (SE.name 10) (SE.name 1)) SA.nil)))) SA.nil)) SS.nil) (SS.seq (SS.asg rfl (SE.op2 p2_modI nox_modI (SE.op2 p2_divI nox_divI (SE.op2 p2_divI nox_divI (SE.name 10) (SE.name 1)) (SE.intC 3)) (SE.name 1)) (SG.name (by decide) (by decide))) (SS.ite rfl (ST.and (ST.cmp (SE.op2 p2_eq nox_eq (SE.op2 p2_modI nox_modI (SE.op2 p2_divI nox_divI (SE.name 10) (SE.name 1)) (SE.intC 3)) (SE.intC 0))) (ST.cmp (SE.op2 p2_notIn nox_notIn (SE.name 12) (SE.name 6)))) (SS.mutL rfl mut_append nox_app (by decide) rfl (SA.cons (SE.flat (SE.name 12)) SA.nil)) SS.nil)))))) rfl rfl rfl rfl)) (SS.pre (ks := [1, 1, 1, 1, 1, 1, 3, 1, 1, 1, 1, 1, 1, 1]) (SS.ret rfl (SE.tup (SA.cons (SE.call1 p1_tupleK nox_tupleO (SE.comp (vs := [13]) (SW.two (SW.any (by decide) (SE.name 4))) (SG.name (by decide) (by decide)) (by decide) ST.yes (SE.call1 p1_tupleK nox_tupleO (SE.call1 p1_sortH nox_sort (SE.name 13))) (by decide))) (SA.cons (SE.call1 p1_tupleK nox_tupleO (SE.call1 p1_sortH nox_sort (SE.name 6))) SA.nil))) (by decide) (by decide) (by decide)) rfl rfl rfl rfl))))
/-! ### _law_runs -/
abbrev s__law_runs : Stmt := top 13
abbrev N__law_runs : List Str := ["cells", "many", "there", "k", "ends", "cell", "room", "rest", "to", "step", "j", "sign", "last", "pairs"]
theorem nd__law_runs : N__law_runs.Nodup := by decide +kernel
theorem sc__law_runs : FnScope N__law_runs ["cells", "many"] (defScope s__law_runs) := ⟨rfl, rfl, rfl, nd__law_runs, rfl, by decide +kernel, by decide +kernel⟩
noncomputable def den__law_runs (e : Env) : SR := (((liftR e (((((getV 1 e) >>= fun d => (.ok []) >>= fun ds => .ok (d :: ds)) >>= range1) >>= compLine >>= fun ds => compR (fun d e => some (e.set 3 (some d))) (fun e => (.ok true)) (fun e => (.ok (.dic 0 [] []))) (wipeE e [3]) ds >>= fun ys => .ok (.lst ys))) fun d => optS (some (e.set 2 (some d))))).then fun e => (((liftR e (((.ok []) >>= lstR)) fun d => optS (some (e.set 4 (some d))))).then fun e => (((liftR e (((getV 0 e) >>= iterG)) fun ds => forL (fun d e => (optS (some (e.set 5 (some d)))).then fun e => (((liftR e (((getV 5 e) >>= fun a => (getV 1 e) >>= fun b => modI a b)) fun d => optS (some (e.set 6 (some d))))).then fun e => (((liftR e ((((getV 5 e) >>= fun a => (getV 1 e) >>= fun b => divI a b) >>= fun a => (.ok (.int 94)) >>= fun b => divI a b)) fun d => optS (some (e.set 7 (some d))))).then fun e => (((liftR e (((getV 7 e) >>= fun a => (.ok (.int 94)) >>= fun b => divI a b)) fun d => optS (some (e.set 8 (some d))))).then fun e => (((liftR e (((getV 8 e) >>= fun a => (getV 1 e) >>= fun b => divI a b)) fun d => optS (some (e.set 9 (some d))))).then fun e => (((liftR e (((((.ok (.int 1)) >>= fun a => (((getV 5 e) >>= fun a => (getV 1 e) >>= fun b => divI a b) >>= fun a => (.ok (.int 94)) >>= fun b => modI a b) >>= fun b => addG a b) >>= fun d => (.ok []) >>= fun ds => .ok (d :: ds)) >>= range1)) fun ds => forL (fun d e => (optS (some (e.set 10 (some d)))).then fun e => (((liftR e (((((getV 7 e) >>= fun a => (getV 10 e) >>= fun b => addG a b) >>= fun d => (.ok []) >>= fun ds => .ok (d :: ds)) >>= m__law_sign)) fun d => optS (some (e.set 11 (some d))))).then fun e => (liftR e ((((getV 11 e) >>= fun a => ((getV 2 e) >>= fun a => (getV 6 e) >>= fun b => ixG a b) >>= fun b => notInG a b) >>= asB)) fun b => if b = true then (liftR e ((((getV 8 e) >>= fun a => ((getV 10 e) >>= fun a => (getV 9 e) >>= fun b => mulI a b) >>= fun b => addG a b) >>= fun a => (getV 1 e) >>= fun b => modI a b) >>= fun v => getV 2 e >>= fun _ => (getV 6 e) >>= fun j => innerAt 2 j e >>= fun p => (getV 11 e) >>= fun k => putG p.2.2 k v >>= fun c => .ok (p, c)) fun q => .nx (setIn 2 q.1 q.2 e)) else (.nx e)))) ds e)).then fun e => (((liftR e (((getV 9 e) >>= fun a => (getV 1 e) >>= fun b => divI a b)) fun d => optS (some (e.set 12 (some d))))).then fun e => (liftR e ((((((getV 12 e) >>= fun a => (.ok (.int 5)) >>= fun b => modI a b) >>= fun a => (.ok (.int 0)) >>= fun b => eqG a b) >>= asB) >>= fun b => if b = true then (((((getV 12 e) >>= fun a => (.ok (.int 5)) >>= fun b => divI a b) >>= fun a => (getV 1 e) >>= fun b => modI a b) >>= fun a => (getV 4 e) >>= fun b => notInG a b) >>= asB) else .ok false)) fun b => if b = true then (liftR e (lstAt 4 e >>= fun ds => ((((getV 12 e) >>= fun a => (.ok (.int 5)) >>= fun b => divI a b) >>= fun a => (getV 1 e) >>= fun b => modI a b) >>= fun d => (.ok []) >>= fun ds => .ok (d :: ds)) >>= fun as => appG ds as) fun ds' => .nx (setL 4 ds' e)) else (.nx e))))))))) ds e)).then fun e => (liftR e (((((((getV 2 e) >>= iterG) >>= compLine >>= fun ds => compR (fun d e => some (e.set 13 (some d))) (fun e => (.ok true)) (fun e => (((getV 13 e) >>= sortIG) >>= tupleO)) (wipeE e [13]) ds >>= fun ys => .ok (.lst ys)) >>= tupleO) >>= fun d => ((((getV 4 e) >>= sortG) >>= tupleO) >>= fun d => (.ok []) >>= fun ds => .ok (d :: ds)) >>= fun ds => .ok (d :: ds)) >>= tupR)) .rt))))
noncomputable def m__law_runs : List D → R D := mden 14 2 den__law_runs
theorem cl__law_runs (T : Tx K mg) : Cl P w K mg base 2 "_law_runs" (spD K (clsOf K) m__law_runs 2 3) := by
  refine mkCl (kn := [1, 1, 1, 1, 1, 1, 1, 1, 1, 1, 1, 1, 1, 1]) (kl := [1, 1, 1, 1, 1, 1, 1, 1, 1, 1, 1, 1, 1, 1]) (kx := [1, 1, 1, 1, 1, 1, 1, 1, 1, 1, 1, 1, 1, 1]) (N := N__law_runs) T.fun__law_runs T.g__law_runs sc__law_runs rfl rfl (by decide) (fun _ _ _ _ _ _ us hl => match us, hl with | [_, _], _ => rfl) (fun cdv A outer s H E hr => ?_)
  have hu := hr.units
  have hu1 := hu_of hr
  refine ⟨_, (pss_cons (ps_setLc (i := 2) (own := [("k", 3)]) rfl nd__law_runs rfl rfl (sw_true rfl rfl rfl (by decide +kernel)) (pi_range1 rfl T.free_range (pa_cons (pv 1) pa_nil)) (blkOk_by (N := N__law_runs) (sc := defScope s__law_runs) (own := [("k", 3)]) (by decide +kernel)) (fun _ _ _ _ _ => (pg_name (i := 3) nd__law_runs rfl (by first | exact Or.inl rfl | exact Or.inr rfl))) (fun _ _ _ _ _ => pts_nil) (fun _ _ _ _ _ => pe_dnewK)) (pss_cons (ps_set (i := 4) nd__law_runs rfl (by first | exact Or.inl rfl | exact Or.inr rfl) (pe_lst pa_nil)) (pss_cons (ps_for (passes_of rfl) rfl (pi_anyK (K := K) rfl (pv 0)) (pg_name (i := 5) nd__law_runs rfl (by first | exact Or.inl rfl | exact Or.inr rfl)) (pss_cons (ps_set (i := 6) nd__law_runs rfl (by first | exact Or.inl rfl | exact Or.inr rfl) (pe_op op_mod (pv 5) (pv 1))) (pss_cons (ps_set (i := 7) nd__law_runs rfl (by first | exact Or.inl rfl | exact Or.inr rfl) (pe_op op_fdivW (pe_op op_fdivW (pv 5) (pv 1)) pe_int)) (pss_cons (ps_set (i := 8) nd__law_runs rfl (by first | exact Or.inl rfl | exact Or.inr rfl) (pe_op op_fdivW (pv 7) pe_int)) (pss_cons (ps_set (i := 9) nd__law_runs rfl (by first | exact Or.inl rfl | exact Or.inr rfl) (pe_op op_fdivW (pv 8) (pv 1))) (pss_cons (ps_for (passes_of rfl) rfl (pi_range1 rfl T.free_range (pa_cons (pe_op (r := rAddG K) op_addG pe_int (pe_op op_mod (pe_op op_fdivW (pv 5) (pv 1)) pe_int)) pa_nil)) (pg_name (i := 10) nd__law_runs rfl (by first | exact Or.inl rfl | exact Or.inr rfl)) (pss_cons (ps_set (i := 11) nd__law_runs rfl (by first | exact Or.inl rfl | exact Or.inr rfl) (pe_callD (cl__law_sign T) (hr.mono (by decide)) rfl (takes_of rfl rfl rfl rfl) (pa_cons (pe_op (r := rAddG K) op_addG (pv 7) (pv 10)) pa_nil))) (pss_one (ps_if (pt_cmpR (r := rInG K true) (op_notInG hu1) (pv 11) (PE.or (pe_ix (r := rIx K) ix_seq (pv 2) (pv 6) (fun _ _ => rfl)) (pe_dget hu1 (pv 2) (pv 6) (fun _ _ => rfl))) (by with_unfolding_all rfl)) (pss_one (ps_asg (pe_op op_mod (pe_op (r := rAddG K) op_addG (pv 8) (pe_op op_mulB (pv 10) (pv 9))) (pv 1)) (pg_sub (pe_ix (r := rIx K) ix_seq (pv 2) (pv 6) (fun _ _ => rfl)) (pv 11) (set_any hu1)))) pss_nil)))) (pss_cons (ps_set (i := 12) nd__law_runs rfl (by first | exact Or.inl rfl | exact Or.inr rfl) (pe_op op_fdivW (pv 9) (pv 1))) (pss_one (ps_if (PW.pt (pw_and (pt_cmpR (r := rEqD K) (op_eqD hu) (pe_op op_mod (pv 12) pe_int) pe_int (nomark _)) (pw_and1 (pt_cmpR (r := rInG K true) (op_notInG hu1) (pe_op op_mod (pe_op op_fdivW (pv 12) pe_int) (pv 1)) (pv 4) (by with_unfolding_all rfl))))) (pss_one (ps_expr (pe_bm PySem.F.plainAttrs_list PySem.F.slot_list_append PySem.F.type_list_append mt_append (pv 4) (pa_cons (pe_op op_mod (pe_op op_fdivW (pv 12) pe_int) (pv 1)) pa_nil)))) pss_nil))))))))) (pss_one (ps_ret (pe_tup (pa_cons (pe_callTy (T := "tuple") (r := rTupleOf K) call_tupleK rfl T.free_tuple (by decide +kernel) (pa_cons (pe_lc (own := [("pairs", 13)]) rfl nd__law_runs (pi_anyK (K := K) rfl (pv 2)) (blkOk_by (N := N__law_runs) (sc := defScope s__law_runs) (own := [("pairs", 13)]) (by decide +kernel)) (fun _ _ _ _ _ => (pg_name (i := 13) nd__law_runs rfl (by first | exact Or.inl rfl | exact Or.inr rfl))) (fun _ _ _ _ _ => pts_nil) (fun _ _ _ _ _ => (pe_callTy (T := "tuple") (r := rTupleOf K) call_tupleK rfl T.free_tuple (by decide +kernel) (pa_cons (pe_sortItemsK (K := K) rfl hu rfl (pv 13) rfl T.free_sorted) pa_nil)))) pa_nil)) (pa_cons (pe_callTy (T := "tuple") (r := rTupleOf K) call_tupleK rfl T.free_tuple (by decide +kernel) (pa_cons (pe_callB (id := "sorted") (r := rSortH K) (call_sortedH hu rfl) rfl T.free_sorted (by decide +kernel) (pa_cons (pv 4) pa_nil)) pa_nil)) pa_nil)))))))), ?_⟩
  exact (SS.seq (SS.asg rfl (SE.comp (vs := [3]) (SW.two (SW.range1 (SA.cons (SE.name 1) SA.nil))) (SG.name (by decide) (by decide)) (by decide) ST.yes SE.dicK (by decide)) (SG.name (by decide) (by decide))) (SS.seq (SS.asg rfl (SE.lst SA.nil (by decide)) (SG.name (by decide) (by decide))) (SS.seq (SS.for rfl (SW.any (by decide) (SE.name 0)) (SG.name (by decide) (by decide)) (SS.wk (kn' := [1, 1, 3, 1, 3, 1, 1, 1, 1, 1, 1, 1, 1, 1]) (SS.seq (SS.asg rfl (SE.op2 p2_modI nox_modI (SE.name 5) (SE.name 1)) (SG.name (by decide) (by decide))) (SS.seq (SS.asg rfl (SE.op2 p2_divI nox_divI (SE.op2 p2_divI nox_divI (SE.name 5) (SE.name 1)) (SE.intC 94)) (SG.name (by decide) (by decide))) (SS.seq (SS.asg rfl (SE.op2 p2_divI nox_divI (SE.name 7) (SE.intC 94)) (SG.name (by decide) (by decide))) (SS.seq (SS.asg rfl (SE.op2 p2_divI nox_divI (SE.name 8) (SE.name 1)) (SG.name (by decide) (by decide))) (SS.seq (SS.for rfl (SW.range1 (SA.cons (SE.op2 p2_addG nox_addG (SE.intC 1) (SE.op2 p2_modI nox_modI (SE.op2 p2_divI nox_divI (SE.name 5) (SE.name 1)) (SE.intC 94))) SA.nil)) (SG.name (by decide) (by decide)) (SS.wk (kn' := [1, 1, 3, 1, 3, 1, 3, 3, 3, 3, 1, 1, 1, 1]) (SS.seq (SS.asg rfl (SA.call mden_len (SA.cons (SE.op2 p2_addG nox_addG (SE.name 7) (SE.name 10)) SA.nil)) (SG.name (by decide) (by decide))) (SS.ite rfl (ST.cmp (SE.op2 p2_notIn nox_notIn (SE.name 11) (SE.ix (SE.name 2) (SE.name 6)))) (SS.setI2 rfl (by decide) rfl (SE.op2 p2_modI nox_modI (SE.op2 p2_addG nox_addG (SE.name 8) (SE.op2 p2_mulI nox_mulI (SE.name 10) (SE.name 9))) (SE.name 1)) (SE.name 6) (SE.name 11)) SS.nil)) rfl rfl rfl rfl)) (SS.seq (SS.asg rfl (SE.op2 p2_divI nox_divI (SE.name 9) (SE.name 1)) (SG.name (by decide) (by decide))) (SS.ite rfl (ST.and (ST.cmp (SE.op2 p2_eq nox_eq (SE.op2 p2_modI nox_modI (SE.name 12) (SE.intC 5)) (SE.intC 0))) (ST.cmp (SE.op2 p2_notIn nox_notIn (SE.op2 p2_modI nox_modI (SE.op2 p2_divI nox_divI (SE.name 12) (SE.intC 5)) (SE.name 1)) (SE.name 4)))) (SS.mutL rfl mut_append nox_app (by decide) rfl (SA.cons (SE.op2 p2_modI nox_modI (SE.op2 p2_divI nox_divI (SE.name 12) (SE.intC 5)) (SE.name 1)) SA.nil)) SS.nil))))))) rfl rfl rfl rfl)) (SS.pre (ks := [1, 1, 1, 1, 3, 1, 1, 1, 1, 1, 1, 1, 1, 1]) (SS.ret rfl (SE.tup (SA.cons (SE.call1 p1_tupleK nox_tupleO (SE.comp (vs := [13]) (SW.two (SW.any (by decide) (SE.name 2))) (SG.name (by decide) (by decide)) (by decide) ST.yes (SE.call1 p1_tupleK nox_tupleO (SE.sortI (SE.name 13))) (by decide))) (SA.cons (SE.call1 p1_tupleK nox_tupleO (SE.call1 p1_sortH nox_sort (SE.name 4))) SA.nil))) (by decide) (by decide) (by decide)) rfl rfl rfl rfl))))
/-! ### _law_door -/
abbrev s__law_door : Stmt := top 14
abbrev N__law_door : List Str := ["house", "room", "sign", "pair"]
theorem nd__law_door : N__law_door.Nodup := by decide +kernel
theorem sc__law_door : FnScope N__law_door ["house", "room", "sign"] (defScope s__law_door) := ⟨rfl, rfl, rfl, nd__law_door, rfl, by decide +kernel, by decide +kernel⟩
noncomputable def den__law_door (e : Env) : SR := (((liftR e ((((getV 1 e) >>= fun a => (.ok .non) >>= fun b => notNG a b) >>= asB)) fun b => if b = true then (liftR e (((((getV 0 e) >>= fun a => (.ok (.int 0)) >>= fun b => ixG a b) >>= fun a => (getV 1 e) >>= fun b => ixG a b) >>= iterG)) fun ds => forL (fun d e => (optS (some (e.set 3 (some d)))).then fun e => (liftR e (((((getV 3 e) >>= fun a => (.ok (.int 0)) >>= fun b => ixG a b) >>= fun a => (getV 2 e) >>= fun b => eqG a b) >>= asB)) fun b => if b = true then (liftR e ((((getV 3 e) >>= fun a => (.ok (.int 1)) >>= fun b => ixG a b) >>= flatR)) .rt) else (.nx e))) ds e) else (.nx e))).then fun e => (liftR e ((.ok .non)) .rt))
noncomputable def m__law_door : List D → R D := mden 4 3 den__law_door
theorem cl__law_door (T : Tx K mg) : Cl P w K mg base 1 "_law_door" (spD K (clsOf K) m__law_door 3 3) := by
  refine mkCl (kn := [1, 1, 1, 1]) (kl := [1, 1, 1, 1]) (kx := [1, 1, 1, 1]) (N := N__law_door) T.fun__law_door T.g__law_door sc__law_door rfl rfl (by decide) (fun _ _ _ _ _ _ us hl => match us, hl with | [_, _, _], _ => rfl) (fun cdv A outer s H E hr => ?_)
  have hu := hr.units
  have hu1 := hu_of hr
  refine ⟨_, (pss_cons (ps_if (pt_cmpR (r := rNotN) op_notN2 (pv 1) pe_non (nomark _)) (pss_one (ps_for (passes_of rfl) rfl (pi_anyK (K := K) rfl (PE.or (pe_ix (r := rIx K) ix_seq (PE.or (pe_ix (r := rIx K) ix_seq (pv 0) pe_int (fun _ _ => rfl)) (pe_dget hu1 (pv 0) pe_int (fun _ _ => rfl))) (pv 1) (fun _ _ => rfl)) (pe_dget hu1 (PE.or (pe_ix (r := rIx K) ix_seq (pv 0) pe_int (fun _ _ => rfl)) (pe_dget hu1 (pv 0) pe_int (fun _ _ => rfl))) (pv 1) (fun _ _ => rfl)))) (pg_name (i := 3) nd__law_door rfl (by first | exact Or.inl rfl | exact Or.inr rfl)) (pss_one (ps_if (pt_cmpR (r := rEqD K) (op_eqD hu) (PE.or (pe_ix (r := rIx K) ix_seq (pv 3) pe_int (fun _ _ => rfl)) (pe_dget hu1 (pv 3) pe_int (fun _ _ => rfl))) (pv 2) (nomark _)) (pss_one (ps_ret (PE.or (pe_ix (r := rIx K) ix_seq (pv 3) pe_int (fun _ _ => rfl)) (pe_dget hu1 (pv 3) pe_int (fun _ _ => rfl))))) pss_nil)))) pss_nil) (pss_one (ps_ret pe_non))), ?_⟩
  exact (SS.seq (SS.ite rfl (ST.cmp (SE.op2 p2_notN nox_notN (SE.name 1) SE.nonC)) (SS.for rfl (SW.any (by decide) (SE.ix (SE.ix (SE.name 0) (SE.intC 0)) (SE.name 1))) (SG.name (by decide) (by decide)) (SS.ite rfl (ST.cmp (SE.op2 p2_eq nox_eq (SE.ix (SE.name 3) (SE.intC 0)) (SE.name 2))) (SS.ret rfl (SE.flat (SE.ix (SE.name 3) (SE.intC 1))) (by decide) (by decide) (by decide)) SS.nil)) SS.nil) (SS.ret rfl SE.nonC (by decide) (by decide) (by decide)))
/-! ### _law_text -/
abbrev s__law_text : Stmt := top 15
abbrev N__law_text : List Str := ["house", "cells", "text", "rooms", "cell", "pairs", "sign"]
theorem nd__law_text : N__law_text.Nodup := by decide +kernel
theorem sc__law_text : FnScope N__law_text ["house", "cells"] (defScope s__law_text) := ⟨rfl, rfl, rfl, nd__law_text, rfl, by decide +kernel, by decide +kernel⟩
noncomputable def den__law_text (e : Env) : SR := (((liftR e ((.ok (.str (tx "")))) fun d => optS (some (e.set 2 (some d))))).then fun e => (((liftR e ((((.ok (.int 0)) >>= fun d => (.ok []) >>= fun ds => .ok (d :: ds)) >>= lstR)) fun d => optS (some (e.set 3 (some d))))).then fun e => (((liftR e (((getV 1 e) >>= iterG)) fun ds => forL (fun d e => (optS (some (e.set 4 (some d)))).then fun e => (((liftR e (((.ok []) >>= tupR)) fun d => optS (some (e.set 5 (some d))))).then fun e => (((liftR e (((((getV 3 e) >>= fun a => ((.ok (.int 1)) >>= negG) >>= fun b => ixG a b) >>= fun a => (.ok .non) >>= fun b => notNG a b) >>= asB)) fun b => if b = true then (liftR e (((((getV 0 e) >>= fun a => (.ok (.int 0)) >>= fun b => ixG a b) >>= fun a => ((getV 3 e) >>= fun a => ((.ok (.int 1)) >>= negG) >>= fun b => ixG a b) >>= fun b => ixG a b) >>= flatR)) fun d => optS (some (e.set 5 (some d)))) else (.nx e))).then fun e => (((liftR e (((((getV 4 e) >>= fun a => (.ok (.int 30)) >>= fun b => divI a b) >>= fun d => (.ok []) >>= fun ds => .ok (d :: ds)) >>= m__law_sign)) fun d => optS (some (e.set 6 (some d))))).then fun e => (((liftR e ((((((getV 4 e) >>= fun a => (.ok (.int 30)) >>= fun b => modI a b) >>= fun a => (.ok (.int 0)) >>= fun b => gtG a b) >>= asB) >>= fun b => if b = true then (((getV 5 e) >>= fun a => ((.ok []) >>= tupR) >>= fun b => neG a b) >>= asB) else .ok false)) fun b => if b = true then (liftR e (((((getV 5 e) >>= fun a => (((getV 4 e) >>= fun a => (.ok (.int 30)) >>= fun b => divI a b) >>= fun a => ((getV 5 e) >>= lenG) >>= fun b => modI a b) >>= fun b => ixG a b) >>= fun a => (.ok (.int 0)) >>= fun b => ixG a b) >>= flatR)) fun d => optS (some (e.set 6 (some d)))) else (.nx e))).then fun e => (((liftR e (((getV 2 e) >>= fun a => (getV 6 e) >>= fun b => addG a b)) fun d => optS (some (e.set 2 (some d))))).then fun e => (liftR e (lstAt 3 e >>= fun ds => ((((getV 0 e) >>= fun d => (((getV 3 e) >>= fun a => ((.ok (.int 1)) >>= negG) >>= fun b => ixG a b) >>= fun d => ((getV 6 e) >>= fun d => (.ok []) >>= fun ds => .ok (d :: ds)) >>= fun ds => .ok (d :: ds)) >>= fun ds => .ok (d :: ds)) >>= m__law_door) >>= fun d => (.ok []) >>= fun ds => .ok (d :: ds)) >>= fun as => appG ds as) fun ds' => .nx (setL 3 ds' e)))))))) ds e)).then fun e => (liftR e ((((getV 2 e) >>= fun d => ((getV 3 e) >>= fun d => (.ok []) >>= fun ds => .ok (d :: ds)) >>= fun ds => .ok (d :: ds)) >>= tupR)) .rt))))
noncomputable def m__law_text : List D → R D := mden 7 2 den__law_text
theorem cl__law_text (T : Tx K mg) : Cl P w K mg base 2 "_law_text" (spD K (clsOf K) m__law_text 2 1) := by
  refine mkCl (kn := [1, 1, 1, 1, 1, 1, 1]) (kl := [1, 1, 1, 1, 1, 1, 1]) (kx := [1, 1, 1, 1, 1, 1, 1]) (N := N__law_text) T.fun__law_text T.g__law_text sc__law_text rfl rfl (by decide) (fun _ _ _ _ _ _ us hl => match us, hl with | [_, _], _ => rfl) (fun cdv A outer s H E hr => ?_)
  have hu := hr.units
  have hu1 := hu_of hr
  refine ⟨_, (pss_cons (ps_set (i := 2) nd__law_text rfl (by first | exact Or.inl rfl | exact Or.inr rfl) pe_str) (pss_cons (ps_set (i := 3) nd__law_text rfl (by first | exact Or.inl rfl | exact Or.inr rfl) (pe_lst (pa_cons pe_int pa_nil))) (pss_cons (ps_for (passes_of rfl) rfl (pi_anyK (K := K) rfl (pv 1)) (pg_name (i := 4) nd__law_text rfl (by first | exact Or.inl rfl | exact Or.inr rfl)) (pss_cons (ps_set (i := 5) nd__law_text rfl (by first | exact Or.inl rfl | exact Or.inr rfl) (pe_tup pa_nil)) (pss_cons (ps_if (pt_cmpR (r := rNotN) op_notN2 (PE.or (pe_ix (r := rIx K) ix_seq (pv 3) (pe_un un_neg pe_int) (fun _ _ => rfl)) (pe_dget hu1 (pv 3) (pe_un un_neg pe_int) (fun _ _ => rfl))) pe_non (nomark _)) (pss_one (ps_set (i := 5) nd__law_text rfl (by first | exact Or.inl rfl | exact Or.inr rfl) (PE.or (pe_ix (r := rIx K) ix_seq (PE.or (pe_ix (r := rIx K) ix_seq (pv 0) pe_int (fun _ _ => rfl)) (pe_dget hu1 (pv 0) pe_int (fun _ _ => rfl))) (PE.or (pe_ix (r := rIx K) ix_seq (pv 3) (pe_un un_neg pe_int) (fun _ _ => rfl)) (pe_dget hu1 (pv 3) (pe_un un_neg pe_int) (fun _ _ => rfl))) (fun _ _ => rfl)) (pe_dget hu1 (PE.or (pe_ix (r := rIx K) ix_seq (pv 0) pe_int (fun _ _ => rfl)) (pe_dget hu1 (pv 0) pe_int (fun _ _ => rfl))) (PE.or (pe_ix (r := rIx K) ix_seq (pv 3) (pe_un un_neg pe_int) (fun _ _ => rfl)) (pe_dget hu1 (pv 3) (pe_un un_neg pe_int) (fun _ _ => rfl))) (fun _ _ => rfl))))) pss_nil) (pss_cons (ps_set (i := 6) nd__law_text rfl (by first | exact Or.inl rfl | exact Or.inr rfl) (pe_callD (cl__law_sign T) (hr.mono (by decide)) rfl (takes_of rfl rfl rfl rfl) (pa_cons (pe_op op_fdivW (pv 4) pe_int) pa_nil))) (pss_cons (ps_if (PW.pt (pw_and (pt_cmpR (r := rGtG K) (op_gtG hu) (pe_op op_mod (pv 4) pe_int) pe_int (nomark _)) (pw_and1 (pt_cmpR (r := rNeD K) (op_neD hu) (pv 5) (pe_tup pa_nil) (nomark _))))) (pss_one (ps_set (i := 6) nd__law_text rfl (by first | exact Or.inl rfl | exact Or.inr rfl) (PE.or (pe_ix (r := rIx K) ix_seq (PE.or (pe_ix (r := rIx K) ix_seq (pv 5) (pe_op op_mod (pe_op op_fdivW (pv 4) pe_int) (pe_callB (id := "len") (r := rLenG K) call_lenG rfl T.free_len (by decide +kernel) (pa_cons (pv 5) pa_nil))) (fun _ _ => rfl)) (pe_dget hu1 (pv 5) (pe_op op_mod (pe_op op_fdivW (pv 4) pe_int) (pe_callB (id := "len") (r := rLenG K) call_lenG rfl T.free_len (by decide +kernel) (pa_cons (pv 5) pa_nil))) (fun _ _ => rfl))) pe_int (fun _ _ => rfl)) (pe_dget hu1 (PE.or (pe_ix (r := rIx K) ix_seq (pv 5) (pe_op op_mod (pe_op op_fdivW (pv 4) pe_int) (pe_callB (id := "len") (r := rLenG K) call_lenG rfl T.free_len (by decide +kernel) (pa_cons (pv 5) pa_nil))) (fun _ _ => rfl)) (pe_dget hu1 (pv 5) (pe_op op_mod (pe_op op_fdivW (pv 4) pe_int) (pe_callB (id := "len") (r := rLenG K) call_lenG rfl T.free_len (by decide +kernel) (pa_cons (pv 5) pa_nil))) (fun _ _ => rfl))) pe_int (fun _ _ => rfl))))) pss_nil) (pss_cons (ps_set (i := 2) nd__law_text rfl (by first | exact Or.inl rfl | exact Or.inr rfl) (pe_op (r := rAddG K) op_addG (pv 2) (pv 6))) (pss_one (ps_expr (pe_bm PySem.F.plainAttrs_list PySem.F.slot_list_append PySem.F.type_list_append mt_append (pv 3) (pa_cons (pe_callD (cl__law_door T) (hr.mono (by decide)) rfl (takes_of rfl rfl rfl rfl) (pa_cons (pv 0) (pa_cons (PE.or (pe_ix (r := rIx K) ix_seq (pv 3) (pe_un un_neg pe_int) (fun _ _ => rfl)) (pe_dget hu1 (pv 3) (pe_un un_neg pe_int) (fun _ _ => rfl))) (pa_cons (pv 6) pa_nil)))) pa_nil)))))))))) (pss_one (ps_ret (pe_tup (pa_cons (pv 2) (pa_cons (pv 3) pa_nil)))))))), ?_⟩
  exact (SS.seq (SS.asg rfl (SE.strC "" (by decide +kernel)) (SG.name (by decide) (by decide))) (SS.seq (SS.asg rfl (SE.lst (SA.cons (SE.intC 0) SA.nil) (by decide)) (SG.name (by decide) (by decide))) (SS.seq (SS.for rfl (SW.any (by decide) (SE.name 1)) (SG.name (by decide) (by decide)) (SS.wk (kn' := [1, 1, 3, 3, 1, 1, 1]) (SS.seq (SS.asg rfl (SE.tup SA.nil) (SG.name (by decide) (by decide))) (SS.seq (SS.ite rfl (ST.cmp (SE.op2 p2_notN nox_notN (SE.ix (SE.name 3) (SE.neg (SE.intC 1))) SE.nonC)) (SS.asg rfl (SE.flat (SE.ix (SE.ix (SE.name 0) (SE.intC 0)) (SE.ix (SE.name 3) (SE.neg (SE.intC 1))))) (SG.name (by decide) (by decide))) SS.nil) (SS.seq (SS.asg rfl (SA.call mden_len (SA.cons (SE.op2 p2_divI nox_divI (SE.name 4) (SE.intC 30)) SA.nil)) (SG.name (by decide) (by decide))) (SS.seq (SS.ite rfl (ST.and (ST.cmp (SE.op2 p2_gt nox_gt (SE.op2 p2_modI nox_modI (SE.name 4) (SE.intC 30)) (SE.intC 0))) (ST.cmp (SE.op2 p2_ne nox_ne (SE.name 5) (SE.tup SA.nil)))) (SS.asg rfl (SE.flat (SE.ix (SE.ix (SE.name 5) (SE.op2 p2_modI nox_modI (SE.op2 p2_divI nox_divI (SE.name 4) (SE.intC 30)) (SE.call1 p1_len nox_len (SE.name 5)))) (SE.intC 0))) (SG.name (by decide) (by decide))) SS.nil) (SS.seq (SS.asg rfl (SE.op2 p2_addG nox_addG (SE.name 2) (SE.name 6)) (SG.name (by decide) (by decide))) (SS.mutL rfl mut_append nox_app (by decide) rfl (SA.cons (SA.call mden_len (SA.cons (SE.name 0) (SA.cons (SE.ix (SE.name 3) (SE.neg (SE.intC 1))) (SA.cons (SE.name 6) SA.nil)))) SA.nil))))))) rfl rfl rfl rfl)) (SS.pre (ks := [1, 1, 1, 1, 1, 1, 1]) (SS.ret rfl (SE.tup (SA.cons (SE.name 2) (SA.cons (SE.name 3) SA.nil))) (by decide) (by decide) (by decide)) rfl rfl rfl rfl))))
/-! ### _law_deep -/
abbrev s__law_deep : Stmt := top 16
abbrev N__law_deep : List Str := ["house", "told", "deep", "room", "some", "pair", "due"]
theorem nd__law_deep : N__law_deep.Nodup := by decide +kernel
theorem sc__law_deep : FnScope N__law_deep ["house", "told"] (defScope s__law_deep) := ⟨rfl, rfl, rfl, nd__law_deep, rfl, by decide +kernel, by decide +kernel⟩
noncomputable def den__law_deep (e : Env) : SR := (((liftR e ((((((getV 1 e) >>= isTy "list") >>= asB) >>= fun b => .ok (!b)) >>= fun b => if b = true then .ok true else ((((getV 1 e) >>= lenG) >>= fun a => (((getV 0 e) >>= fun a => (.ok (.int 0)) >>= fun b => ixG a b) >>= lenG) >>= fun b => neG a b) >>= asB))) fun b => if b = true then (liftR e ((.ok (.bl false))) .rt) else (.nx e))).then fun e => (((liftR e (((getV 1 e) >>= iterG)) fun ds => forL (fun d e => (optS (some (e.set 2 (some d)))).then fun e => (liftR e (((((getV 2 e) >>= fun a => (.ok .non) >>= fun b => notNG a b) >>= asB) >>= fun b => if b = true then (((((getV 2 e) >>= fun d => (.ok []) >>= fun ds => .ok (d :: ds)) >>= m__law_whole) >>= asB) >>= fun b => .ok (!b)) else .ok false)) fun b => if b = true then (liftR e ((.ok (.bl false))) .rt) else (.nx e))) ds e)).then fun e => (((liftR e (((((getV 1 e) >>= lenG) >>= fun d => (.ok []) >>= fun ds => .ok (d :: ds)) >>= range1)) fun ds => forL (fun d e => (optS (some (e.set 3 (some d)))).then fun e => (((liftR e ((((((getV 0 e) >>= fun a => (.ok (.int 0)) >>= fun b => ixG a b) >>= fun a => (getV 3 e) >>= fun b => ixG a b) >>= iterG) >>= compLine >>= fun ds => compR (fun d e => some (e.set 5 (some d))) (fun e => ((((getV 1 e) >>= fun a => ((getV 5 e) >>= fun a => (.ok (.int 1)) >>= fun b => ixG a b) >>= fun b => ixG a b) >>= fun a => (.ok .non) >>= fun b => notNG a b) >>= asB)) (fun e => ((getV 1 e) >>= fun a => ((getV 5 e) >>= fun a => (.ok (.int 1)) >>= fun b => ixG a b) >>= fun b => ixG a b)) (wipeE e [5]) ds >>= fun ys => .ok (.lst ys))) fun d => optS (some (e.set 4 (some d))))).then fun e => (((liftR e ((.ok .non)) fun d => optS (some (e.set 6 (some d))))).then fun e => (((liftR e ((((getV 4 e) >>= fun a => ((.ok []) >>= lstR) >>= fun b => neG a b) >>= asB)) fun b => if b = true then (liftR e (((.ok (.int 1)) >>= fun a => ((getV 4 e) >>= minG) >>= fun b => addG a b)) fun d => optS (some (e.set 6 (some d)))) else (.nx e))).then fun e => (((liftR e ((((getV 3 e) >>= fun a => ((getV 0 e) >>= fun a => (.ok (.int 1)) >>= fun b => ixG a b) >>= fun b => inG a b) >>= asB)) fun b => if b = true then (liftR e ((.ok (.int 0))) fun d => optS (some (e.set 6 (some d)))) else (.nx e))).then fun e => (liftR e (((((getV 1 e) >>= fun a => (getV 3 e) >>= fun b => ixG a b) >>= fun a => (getV 6 e) >>= fun b => neG a b) >>= asB)) fun b => if b = true then (liftR e ((.ok (.bl false))) .rt) else (.nx e))))))) ds e)).then fun e => (liftR e ((.ok (.bl true))) .rt))))
noncomputable def m__law_deep : List D → R D := mden 7 2 den__law_deep
theorem cl__law_deep (T : Tx K mg) : Cl P w K mg base 2 "_law_deep" (spD K (clsOf K) m__law_deep 2 3) := by
  refine mkCl (kn := [1, 1, 1, 1, 1, 1, 1]) (kl := [1, 1, 1, 1, 1, 1, 1]) (kx := [1, 1, 1, 1, 1, 1, 1]) (N := N__law_deep) T.fun__law_deep T.g__law_deep sc__law_deep rfl rfl (by decide) (fun _ _ _ _ _ _ us hl => match us, hl with | [_, _], _ => rfl) (fun cdv A outer s H E hr => ?_)
  have hu := hr.units
  have hu1 := hu_of hr
  refine ⟨_, (pss_cons (ps_if (PW.pt (pw_or (pt_not (pt_val (pe_callB (id := "isinstance") (r := rIsi K) call_isi rfl T.free_isinstance (by decide +kernel) (pa_cons (pv 1) (pa_cons (pe_bltn (v := .ty "list") rfl T.free_list (by decide +kernel) rfl) pa_nil))))) (pw_or1 (pt_cmpR (r := rNeD K) (op_neD hu) (pe_callB (id := "len") (r := rLenG K) call_lenG rfl T.free_len (by decide +kernel) (pa_cons (pv 1) pa_nil)) (pe_callB (id := "len") (r := rLenG K) call_lenG rfl T.free_len (by decide +kernel) (pa_cons (PE.or (pe_ix (r := rIx K) ix_seq (pv 0) pe_int (fun _ _ => rfl)) (pe_dget hu1 (pv 0) pe_int (fun _ _ => rfl))) pa_nil)) (nomark _))))) (pss_one (ps_ret pe_bl)) pss_nil) (pss_cons (ps_for (passes_of rfl) rfl (pi_anyK (K := K) rfl (pv 1)) (pg_name (i := 2) nd__law_deep rfl (by first | exact Or.inl rfl | exact Or.inr rfl)) (pss_one (ps_if (PW.pt (pw_and (pt_cmpR (r := rNotN) op_notN2 (pv 2) pe_non (nomark _)) (pw_and1 (pt_not (pt_val (pe_callD (cl__law_whole T) (hr.mono (by decide)) rfl (takes_of rfl rfl rfl rfl) (pa_cons (pv 2) pa_nil))))))) (pss_one (ps_ret pe_bl)) pss_nil))) (pss_cons (ps_for (passes_of rfl) rfl (pi_range1 rfl T.free_range (pa_cons (pe_callB (id := "len") (r := rLenG K) call_lenG rfl T.free_len (by decide +kernel) (pa_cons (pv 1) pa_nil)) pa_nil)) (pg_name (i := 3) nd__law_deep rfl (by first | exact Or.inl rfl | exact Or.inr rfl)) (pss_cons (ps_setLc (i := 4) (own := [("pair", 5)]) rfl nd__law_deep rfl rfl (sw_true rfl rfl rfl (by decide +kernel)) (pi_anyK (K := K) rfl (PE.or (pe_ix (r := rIx K) ix_seq (PE.or (pe_ix (r := rIx K) ix_seq (pv 0) pe_int (fun _ _ => rfl)) (pe_dget hu1 (pv 0) pe_int (fun _ _ => rfl))) (pv 3) (fun _ _ => rfl)) (pe_dget hu1 (PE.or (pe_ix (r := rIx K) ix_seq (pv 0) pe_int (fun _ _ => rfl)) (pe_dget hu1 (pv 0) pe_int (fun _ _ => rfl))) (pv 3) (fun _ _ => rfl)))) (blkOk_by (N := N__law_deep) (sc := defScope s__law_deep) (own := [("pair", 5)]) (by decide +kernel)) (fun _ _ _ _ _ => (pg_name (i := 5) nd__law_deep rfl (by first | exact Or.inl rfl | exact Or.inr rfl))) (fun _ _ _ _ _ => (pts_one (pt_cmpR (r := rNotN) op_notN2 (PE.or (pe_ix (r := rIx K) ix_seq (pv 1) (PE.or (pe_ix (r := rIx K) ix_seq (pv 5) pe_int (fun _ _ => rfl)) (pe_dget hu1 (pv 5) pe_int (fun _ _ => rfl))) (fun _ _ => rfl)) (pe_dget hu1 (pv 1) (PE.or (pe_ix (r := rIx K) ix_seq (pv 5) pe_int (fun _ _ => rfl)) (pe_dget hu1 (pv 5) pe_int (fun _ _ => rfl))) (fun _ _ => rfl))) pe_non (nomark _)))) (fun _ _ _ _ _ => (PE.or (pe_ix (r := rIx K) ix_seq (pv 1) (PE.or (pe_ix (r := rIx K) ix_seq (pv 5) pe_int (fun _ _ => rfl)) (pe_dget hu1 (pv 5) pe_int (fun _ _ => rfl))) (fun _ _ => rfl)) (pe_dget hu1 (pv 1) (PE.or (pe_ix (r := rIx K) ix_seq (pv 5) pe_int (fun _ _ => rfl)) (pe_dget hu1 (pv 5) pe_int (fun _ _ => rfl))) (fun _ _ => rfl))))) (pss_cons (ps_set (i := 6) nd__law_deep rfl (by first | exact Or.inl rfl | exact Or.inr rfl) pe_non) (pss_cons (ps_if (pt_cmpR (r := rNeD K) (op_neD hu) (pv 4) (pe_lst pa_nil) (nomark _)) (pss_one (ps_set (i := 6) nd__law_deep rfl (by first | exact Or.inl rfl | exact Or.inr rfl) (pe_op (r := rAddG K) op_addG pe_int (pe_callB (id := "min") (r := rMin K) (cr_min rfl) rfl T.free_min (by decide +kernel) (pa_cons (pv 4) pa_nil))))) pss_nil) (pss_cons (ps_if (pt_cmpR (r := rInG K false) (op_inG hu1) (pv 3) (PE.or (pe_ix (r := rIx K) ix_seq (pv 0) pe_int (fun _ _ => rfl)) (pe_dget hu1 (pv 0) pe_int (fun _ _ => rfl))) (by with_unfolding_all rfl)) (pss_one (ps_set (i := 6) nd__law_deep rfl (by first | exact Or.inl rfl | exact Or.inr rfl) pe_int)) pss_nil) (pss_one (ps_if (pt_cmpR (r := rNeD K) (op_neD hu) (PE.or (pe_ix (r := rIx K) ix_seq (pv 1) (pv 3) (fun _ _ => rfl)) (pe_dget hu1 (pv 1) (pv 3) (fun _ _ => rfl))) (pv 6) (nomark _)) (pss_one (ps_ret pe_bl)) pss_nil))))))) (pss_one (ps_ret pe_bl))))), ?_⟩
  exact (SS.seq (SS.ite rfl (ST.or (ST.not (ST.val (SE.isTy (T := "list") (by decide) (SE.name 1)))) (ST.cmp (SE.op2 p2_ne nox_ne (SE.call1 p1_len nox_len (SE.name 1)) (SE.call1 p1_len nox_len (SE.ix (SE.name 0) (SE.intC 0)))))) (SS.ret rfl (SE.blC false) (by decide) (by decide) (by decide)) SS.nil) (SS.seq (SS.for rfl (SW.any (by decide) (SE.name 1)) (SG.name (by decide) (by decide)) (SS.ite rfl (ST.and (ST.cmp (SE.op2 p2_notN nox_notN (SE.name 2) SE.nonC)) (ST.not (ST.val (SA.call mden_len (SA.cons (SE.name 2) SA.nil))))) (SS.ret rfl (SE.blC false) (by decide) (by decide) (by decide)) SS.nil)) (SS.seq (SS.for rfl (SW.range1 (SA.cons (SE.call1 p1_len nox_len (SE.name 1)) SA.nil)) (SG.name (by decide) (by decide)) (SS.wk (kn' := [1, 1, 1, 1, 1, 1, 1]) (SS.seq (SS.asg rfl (SE.comp (vs := [5]) (SW.two (SW.any (by decide) (SE.ix (SE.ix (SE.name 0) (SE.intC 0)) (SE.name 3)))) (SG.name (by decide) (by decide)) (by decide) (ST.cmp (SE.op2 p2_notN nox_notN (SE.ix (SE.name 1) (SE.ix (SE.name 5) (SE.intC 1))) SE.nonC)) (SE.ix (SE.name 1) (SE.ix (SE.name 5) (SE.intC 1))) (by decide)) (SG.name (by decide) (by decide))) (SS.seq (SS.asg rfl SE.nonC (SG.name (by decide) (by decide))) (SS.seq (SS.ite rfl (ST.cmp (SE.op2 p2_ne nox_ne (SE.name 4) (SE.lst SA.nil (by decide)))) (SS.asg rfl (SE.op2 p2_addG nox_addG (SE.intC 1) (SE.call1 p1_min (nox_onL fun _ => nox_optI _) (SE.name 4))) (SG.name (by decide) (by decide))) SS.nil) (SS.seq (SS.ite rfl (ST.cmp (SE.op2 p2_in nox_in (SE.name 3) (SE.ix (SE.name 0) (SE.intC 1)))) (SS.asg rfl (SE.intC 0) (SG.name (by decide) (by decide))) SS.nil) (SS.ite rfl (ST.cmp (SE.op2 p2_ne nox_ne (SE.ix (SE.name 1) (SE.name 3)) (SE.name 6))) (SS.ret rfl (SE.blC false) (by decide) (by decide) (by decide)) SS.nil))))) rfl rfl rfl rfl)) (SS.ret rfl (SE.blC true) (by decide) (by decide) (by decide)))))
/-! ### _law_first -/
abbrev s__law_first : Stmt := top 17
abbrev N__law_first : List Str := ["house", "room", "deep", "pair"]
theorem nd__law_first : N__law_first.Nodup := by decide +kernel
theorem sc__law_first : FnScope N__law_first ["house", "room", "deep"] (defScope s__law_first) := ⟨rfl, rfl, rfl, nd__law_first, rfl, by decide +kernel, by decide +kernel⟩
noncomputable def den__law_first (e : Env) : SR := (((liftR e (((((getV 0 e) >>= fun a => (.ok (.int 0)) >>= fun b => ixG a b) >>= fun a => (getV 1 e) >>= fun b => ixG a b) >>= iterG)) fun ds => forL (fun d e => (optS (some (e.set 3 (some d)))).then fun e => (liftR e ((((((getV 2 e) >>= fun a => ((getV 3 e) >>= fun a => (.ok (.int 1)) >>= fun b => ixG a b) >>= fun b => ixG a b) >>= fun a => (.ok .non) >>= fun b => notNG a b) >>= asB) >>= fun b => if b = true then (((((getV 2 e) >>= fun a => ((getV 3 e) >>= fun a => (.ok (.int 1)) >>= fun b => ixG a b) >>= fun b => ixG a b) >>= fun a => (.ok (.int 1)) >>= fun b => addG a b) >>= fun a => ((getV 2 e) >>= fun a => (getV 1 e) >>= fun b => ixG a b) >>= fun b => eqG a b) >>= asB) else .ok false)) fun b => if b = true then (liftR e (((getV 3 e) >>= flatR)) .rt) else (.nx e))) ds e)).then fun e => (liftR e ((.ok .non)) .rt))
noncomputable def m__law_first : List D → R D := mden 4 3 den__law_first
theorem cl__law_first (T : Tx K mg) : Cl P w K mg base 1 "_law_first" (spD K (clsOf K) m__law_first 3 3) := by
  refine mkCl (kn := [1, 1, 1, 1]) (kl := [1, 1, 1, 1]) (kx := [1, 1, 1, 1]) (N := N__law_first) T.fun__law_first T.g__law_first sc__law_first rfl rfl (by decide) (fun _ _ _ _ _ _ us hl => match us, hl with | [_, _, _], _ => rfl) (fun cdv A outer s H E hr => ?_)
  have hu := hr.units
  have hu1 := hu_of hr
  refine ⟨_, (pss_cons (ps_for (passes_of rfl) rfl (pi_anyK (K := K) rfl (PE.or (pe_ix (r := rIx K) ix_seq (PE.or (pe_ix (r := rIx K) ix_seq (pv 0) pe_int (fun _ _ => rfl)) (pe_dget hu1 (pv 0) pe_int (fun _ _ => rfl))) (pv 1) (fun _ _ => rfl)) (pe_dget hu1 (PE.or (pe_ix (r := rIx K) ix_seq (pv 0) pe_int (fun _ _ => rfl)) (pe_dget hu1 (pv 0) pe_int (fun _ _ => rfl))) (pv 1) (fun _ _ => rfl)))) (pg_name (i := 3) nd__law_first rfl (by first | exact Or.inl rfl | exact Or.inr rfl)) (pss_one (ps_if (PW.pt (pw_and (pt_cmpR (r := rNotN) op_notN2 (PE.or (pe_ix (r := rIx K) ix_seq (pv 2) (PE.or (pe_ix (r := rIx K) ix_seq (pv 3) pe_int (fun _ _ => rfl)) (pe_dget hu1 (pv 3) pe_int (fun _ _ => rfl))) (fun _ _ => rfl)) (pe_dget hu1 (pv 2) (PE.or (pe_ix (r := rIx K) ix_seq (pv 3) pe_int (fun _ _ => rfl)) (pe_dget hu1 (pv 3) pe_int (fun _ _ => rfl))) (fun _ _ => rfl))) pe_non (nomark _)) (pw_and1 (pt_cmpR (r := rEqD K) (op_eqD hu) (pe_op (r := rAddG K) op_addG (PE.or (pe_ix (r := rIx K) ix_seq (pv 2) (PE.or (pe_ix (r := rIx K) ix_seq (pv 3) pe_int (fun _ _ => rfl)) (pe_dget hu1 (pv 3) pe_int (fun _ _ => rfl))) (fun _ _ => rfl)) (pe_dget hu1 (pv 2) (PE.or (pe_ix (r := rIx K) ix_seq (pv 3) pe_int (fun _ _ => rfl)) (pe_dget hu1 (pv 3) pe_int (fun _ _ => rfl))) (fun _ _ => rfl))) pe_int) (PE.or (pe_ix (r := rIx K) ix_seq (pv 2) (pv 1) (fun _ _ => rfl)) (pe_dget hu1 (pv 2) (pv 1) (fun _ _ => rfl))) (nomark _))))) (pss_one (ps_ret (pv 3))) pss_nil))) (pss_one (ps_ret pe_non))), ?_⟩
  exact (SS.seq (SS.for rfl (SW.any (by decide) (SE.ix (SE.ix (SE.name 0) (SE.intC 0)) (SE.name 1))) (SG.name (by decide) (by decide)) (SS.ite rfl (ST.and (ST.cmp (SE.op2 p2_notN nox_notN (SE.ix (SE.name 2) (SE.ix (SE.name 3) (SE.intC 1))) SE.nonC)) (ST.cmp (SE.op2 p2_eq nox_eq (SE.op2 p2_addG nox_addG (SE.ix (SE.name 2) (SE.ix (SE.name 3) (SE.intC 1))) (SE.intC 1)) (SE.ix (SE.name 2) (SE.name 1))))) (SS.ret rfl (SE.flat (SE.name 3)) (by decide) (by decide) (by decide)) SS.nil)) (SS.ret rfl SE.nonC (by decide) (by decide) (by decide)))
/-! ### _law_tail -/
abbrev s__law_tail : Stmt := top 18
abbrev N__law_tail : List Str := ["house", "room", "deep", "found", "sign", "pair"]
theorem nd__law_tail : N__law_tail.Nodup := by decide +kernel
theorem sc__law_tail : FnScope N__law_tail ["house", "room", "deep", "found"] (defScope s__law_tail) := ⟨rfl, rfl, rfl, nd__law_tail, rfl, by decide +kernel, by decide +kernel⟩
noncomputable def den__law_tail (e : Env) : SR := (((liftR e (((((getV 1 e) >>= fun a => (.ok .non) >>= fun b => isNG a b) >>= asB) >>= fun b => if b = true then .ok true else ((((getV 2 e) >>= fun a => (getV 1 e) >>= fun b => ixG a b) >>= fun a => (.ok .non) >>= fun b => isNG a b) >>= asB))) fun b => if b = true then (liftR e (((getV 3 e) >>= fun a => (.ok .non) >>= fun b => isNG a b)) .rt) else (.nx e))).then fun e => (((liftR e ((((((getV 3 e) >>= isTy "str") >>= asB) >>= fun b => .ok (!b)) >>= fun b => if b = true then .ok true else ((((getV 3 e) >>= lenG) >>= fun a => ((getV 2 e) >>= fun a => (getV 1 e) >>= fun b => ixG a b) >>= fun b => neG a b) >>= asB))) fun b => if b = true then (liftR e ((.ok (.bl false))) .rt) else (.nx e))).then fun e => (((liftR e (((getV 3 e) >>= iterG)) fun ds => forL (fun d e => (optS (some (e.set 4 (some d)))).then fun e => (((liftR e ((((getV 0 e) >>= fun d => ((getV 1 e) >>= fun d => ((getV 2 e) >>= fun d => (.ok []) >>= fun ds => .ok (d :: ds)) >>= fun ds => .ok (d :: ds)) >>= fun ds => .ok (d :: ds)) >>= m__law_first)) fun d => optS (some (e.set 5 (some d))))).then fun e => (((liftR e (((((getV 5 e) >>= fun a => (.ok .non) >>= fun b => isNG a b) >>= asB) >>= fun b => if b = true then .ok true else ((((getV 5 e) >>= fun a => (.ok (.int 0)) >>= fun b => ixG a b) >>= fun a => (getV 4 e) >>= fun b => neG a b) >>= asB))) fun b => if b = true then (liftR e ((.ok (.bl false))) .rt) else (.nx e))).then fun e => (liftR e ((((getV 5 e) >>= fun a => (.ok (.int 1)) >>= fun b => ixG a b) >>= flatR)) fun d => optS (some (e.set 1 (some d))))))) ds e)).then fun e => (liftR e (((getV 1 e) >>= fun a => ((getV 0 e) >>= fun a => (.ok (.int 1)) >>= fun b => ixG a b) >>= fun b => inG a b)) .rt))))
noncomputable def m__law_tail : List D → R D := mden 6 4 den__law_tail
theorem cl__law_tail (T : Tx K mg) : Cl P w K mg base 2 "_law_tail" (spD K (clsOf K) m__law_tail 4 3) := by
  refine mkCl (kn := [1, 1, 1, 1, 1, 1]) (kl := [1, 1, 1, 1, 1, 1]) (kx := [1, 1, 1, 1, 1, 1]) (N := N__law_tail) T.fun__law_tail T.g__law_tail sc__law_tail rfl rfl (by decide) (fun _ _ _ _ _ _ us hl => match us, hl with | [_, _, _, _], _ => rfl) (fun cdv A outer s H E hr => ?_)
  have hu := hr.units
  have hu1 := hu_of hr
  refine ⟨_, (pss_cons (ps_if (PW.pt (pw_or (pt_cmpR (r := rIsN) op_isN2 (pv 1) pe_non (nomark _)) (pw_or1 (pt_cmpR (r := rIsN) op_isN2 (PE.or (pe_ix (r := rIx K) ix_seq (pv 2) (pv 1) (fun _ _ => rfl)) (pe_dget hu1 (pv 2) (pv 1) (fun _ _ => rfl))) pe_non (nomark _))))) (pss_one (ps_ret (pe_cmpR (r := rIsN) op_isN2 (pv 3) pe_non (nomark _)))) pss_nil) (pss_cons (ps_if (PW.pt (pw_or (pt_not (pt_val (pe_callB (id := "isinstance") (r := rIsi K) call_isi rfl T.free_isinstance (by decide +kernel) (pa_cons (pv 3) (pa_cons (pe_bltn (v := .ty "str") rfl T.free_str (by decide +kernel) rfl) pa_nil))))) (pw_or1 (pt_cmpR (r := rNeD K) (op_neD hu) (pe_callB (id := "len") (r := rLenG K) call_lenG rfl T.free_len (by decide +kernel) (pa_cons (pv 3) pa_nil)) (PE.or (pe_ix (r := rIx K) ix_seq (pv 2) (pv 1) (fun _ _ => rfl)) (pe_dget hu1 (pv 2) (pv 1) (fun _ _ => rfl))) (nomark _))))) (pss_one (ps_ret pe_bl)) pss_nil) (pss_cons (ps_for (passes_of rfl) rfl (pi_anyK (K := K) rfl (pv 3)) (pg_name (i := 4) nd__law_tail rfl (by first | exact Or.inl rfl | exact Or.inr rfl)) (pss_cons (ps_set (i := 5) nd__law_tail rfl (by first | exact Or.inl rfl | exact Or.inr rfl) (pe_callD (cl__law_first T) (hr.mono (by decide)) rfl (takes_of rfl rfl rfl rfl) (pa_cons (pv 0) (pa_cons (pv 1) (pa_cons (pv 2) pa_nil))))) (pss_cons (ps_if (PW.pt (pw_or (pt_cmpR (r := rIsN) op_isN2 (pv 5) pe_non (nomark _)) (pw_or1 (pt_cmpR (r := rNeD K) (op_neD hu) (PE.or (pe_ix (r := rIx K) ix_seq (pv 5) pe_int (fun _ _ => rfl)) (pe_dget hu1 (pv 5) pe_int (fun _ _ => rfl))) (pv 4) (nomark _))))) (pss_one (ps_ret pe_bl)) pss_nil) (pss_one (ps_set (i := 1) nd__law_tail rfl (by first | exact Or.inl rfl | exact Or.inr rfl) (PE.or (pe_ix (r := rIx K) ix_seq (pv 5) pe_int (fun _ _ => rfl)) (pe_dget hu1 (pv 5) pe_int (fun _ _ => rfl)))))))) (pss_one (ps_ret (pe_cmpR (r := rInG K false) (op_inG hu1) (pv 1) (PE.or (pe_ix (r := rIx K) ix_seq (pv 0) pe_int (fun _ _ => rfl)) (pe_dget hu1 (pv 0) pe_int (fun _ _ => rfl))) (by with_unfolding_all rfl))))))), ?_⟩
  exact (SS.seq (SS.ite rfl (ST.or (ST.cmp (SE.op2 p2_isN nox_isN (SE.name 1) SE.nonC)) (ST.cmp (SE.op2 p2_isN nox_isN (SE.ix (SE.name 2) (SE.name 1)) SE.nonC))) (SS.ret rfl (SE.op2 p2_isN nox_isN (SE.name 3) SE.nonC) (by decide) (by decide) (by decide)) SS.nil) (SS.seq (SS.ite rfl (ST.or (ST.not (ST.val (SE.isTy (T := "str") (by decide) (SE.name 3)))) (ST.cmp (SE.op2 p2_ne nox_ne (SE.call1 p1_len nox_len (SE.name 3)) (SE.ix (SE.name 2) (SE.name 1))))) (SS.ret rfl (SE.blC false) (by decide) (by decide) (by decide)) SS.nil) (SS.seq (SS.for rfl (SW.any (by decide) (SE.name 3)) (SG.name (by decide) (by decide)) (SS.wk (kn' := [1, 1, 1, 1, 1, 1]) (SS.seq (SS.asg rfl (SA.call mden_len (SA.cons (SE.name 0) (SA.cons (SE.name 1) (SA.cons (SE.name 2) SA.nil)))) (SG.name (by decide) (by decide))) (SS.seq (SS.ite rfl (ST.or (ST.cmp (SE.op2 p2_isN nox_isN (SE.name 5) SE.nonC)) (ST.cmp (SE.op2 p2_ne nox_ne (SE.ix (SE.name 5) (SE.intC 0)) (SE.name 4)))) (SS.ret rfl (SE.blC false) (by decide) (by decide) (by decide)) SS.nil) (SS.asg rfl (SE.flat (SE.ix (SE.name 5) (SE.intC 1))) (SG.name (by decide) (by decide))))) rfl rfl rfl rfl)) (SS.ret rfl (SE.op2 p2_in nox_in (SE.name 1) (SE.ix (SE.name 0) (SE.intC 1))) (by decide) (by decide) (by decide)))))
/-! ### law -/
abbrev s_law : Stmt := top 19
abbrev N_law : List Str := ["script", "many", "few", "rest", "half", "house", "deep", "told", "text", "rooms", "k"]
theorem nd_law : N_law.Nodup := by decide +kernel
theorem sc_law : FnScope N_law ["script"] (defScope s_law) := ⟨rfl, rfl, rfl, nd_law, rfl, by decide +kernel, by decide +kernel⟩
noncomputable def den_law (e : Env) : SR := (((liftR e (((.ok (.int 1)) >>= fun a => (((((getV 0 e) >>= fun d => ((.ok (.int 0)) >>= fun d => (.ok []) >>= fun ds => .ok (d :: ds)) >>= fun ds => .ok (d :: ds)) >>= m__law_cell_at) >>= fun a => (.ok (.int 2)) >>= fun b => divI a b) >>= fun a => ((((.ok (.int 5)) >>= fun d => ((.ok (.int 40)) >>= fun d => (.ok []) >>= fun ds => .ok (d :: ds)) >>= fun ds => .ok (d :: ds)) >>= lstR) >>= fun a => ((((getV 0 e) >>= fun d => ((.ok (.int 0)) >>= fun d => (.ok []) >>= fun ds => .ok (d :: ds)) >>= fun ds => .ok (d :: ds)) >>= m__law_cell_at) >>= fun a => (.ok (.int 2)) >>= fun b => modI a b) >>= fun b => ixG a b) >>= fun b => modI a b) >>= fun b => addG a b)) fun d => optS (some (e.set 1 (some d))))).then fun e => (((liftR e (((.ok (.int 1)) >>= fun a => (((((getV 0 e) >>= fun d => ((.ok (.int 1)) >>= fun d => (.ok []) >>= fun ds => .ok (d :: ds)) >>= fun ds => .ok (d :: ds)) >>= m__law_cell_at) >>= fun a => (.ok (.int 2)) >>= fun b => divI a b) >>= fun a => ((((.ok (.int 4)) >>= fun d => ((.ok (.int 94)) >>= fun d => (.ok []) >>= fun ds => .ok (d :: ds)) >>= fun ds => .ok (d :: ds)) >>= lstR) >>= fun a => ((((getV 0 e) >>= fun d => ((.ok (.int 1)) >>= fun d => (.ok []) >>= fun ds => .ok (d :: ds)) >>= fun ds => .ok (d :: ds)) >>= m__law_cell_at) >>= fun a => (.ok (.int 2)) >>= fun b => modI a b) >>= fun b => ixG a b) >>= fun b => modI a b) >>= fun b => addG a b)) fun d => optS (some (e.set 2 (some d))))).then fun e => (((liftR e (((getV 0 e) >>= fun a => ((.ok (.int 3)) >>= asI) >>= fun lo => ((.ok (.int 303)) >>= asI) >>= fun hi => slO a lo hi)) fun d => optS (some (e.set 3 (some d))))).then fun e => (((liftR e (((((getV 0 e) >>= fun d => ((.ok (.int 2)) >>= fun d => (.ok []) >>= fun ds => .ok (d :: ds)) >>= fun ds => .ok (d :: ds)) >>= m__law_cell_at) >>= fun a => (((getV 3 e) >>= lenG) >>= fun a => (.ok (.int 1)) >>= fun b => addG a b) >>= fun b => modI a b)) fun d => optS (some (e.set 4 (some d))))).then fun e => (((liftR e (((((getV 3 e) >>= fun a => (.ok none) >>= fun lo => ((getV 4 e) >>= asI) >>= fun hi => slO a lo hi) >>= fun d => ((getV 1 e) >>= fun d => ((((((getV 0 e) >>= fun d => ((.ok (.int 1)) >>= fun d => (.ok []) >>= fun ds => .ok (d :: ds)) >>= fun ds => .ok (d :: ds)) >>= m__law_cell_at) >>= fun a => (.ok (.int 188)) >>= fun b => divI a b) >>= fun a => (.ok (.int 94)) >>= fun b => modI a b) >>= fun d => ((getV 2 e) >>= fun d => (.ok []) >>= fun ds => .ok (d :: ds)) >>= fun ds => .ok (d :: ds)) >>= fun ds => .ok (d :: ds)) >>= fun ds => .ok (d :: ds)) >>= m__law_house)) fun d => optS (some (e.set 5 (some d))))).then fun e => (((liftR e ((((((((getV 0 e) >>= fun d => ((.ok (.int 1)) >>= fun d => (.ok []) >>= fun ds => .ok (d :: ds)) >>= fun ds => .ok (d :: ds)) >>= m__law_cell_at) >>= fun a => (.ok (.int 17672)) >>= fun b => divI a b) >>= fun a => (.ok (.int 3)) >>= fun b => modI a b) >>= fun a => (.ok (.int 1)) >>= fun b => eqG a b) >>= asB)) fun b => if b = true then (liftR e (((((getV 3 e) >>= fun a => (.ok none) >>= fun lo => ((getV 4 e) >>= asI) >>= fun hi => slO a lo hi) >>= fun d => (((.ok (.int 1)) >>= fun a => ((getV 1 e) >>= fun a => (.ok (.int 12)) >>= fun b => modI a b) >>= fun b => addG a b) >>= fun d => (.ok []) >>= fun ds => .ok (d :: ds)) >>= fun ds => .ok (d :: ds)) >>= m__law_runs)) fun d => optS (some (e.set 5 (some d)))) else (.nx e))).then fun e => (((liftR e ((((getV 5 e) >>= fun d => (.ok []) >>= fun ds => .ok (d :: ds)) >>= m_depths)) fun d => optS (some (e.set 6 (some d))))).then fun e => (((liftR e ((((((getV 5 e) >>= fun d => ((getV 6 e) >>= fun d => (.ok []) >>= fun ds => .ok (d :: ds)) >>= fun ds => .ok (d :: ds)) >>= m__law_deep) >>= asB) >>= fun b => .ok (!b))) fun b => if b = true then (liftR e ((.ok (.bl false))) .rt) else (.nx e))).then fun e => (((liftR e ((((getV 5 e) >>= fun d => (.ok []) >>= fun ds => .ok (d :: ds)) >>= m_depths)) fun d => optS (some (e.set 7 (some d))))).then fun e => (((liftR e ((.ok (.int 41)) >>= fun v => getV 7 e >>= fun c => (.ok (.int 0)) >>= fun j => putG c j v) fun d => .nx (setV 7 d e))).then fun e => (((liftR e (lstAt 7 e >>= fun ds => ((.ok (.int 0)) >>= fun d => (.ok []) >>= fun ds => .ok (d :: ds)) >>= fun as => appG ds as) fun ds' => .nx (setL 7 ds' e))).then fun e => (((liftR e ((((((getV 5 e) >>= fun d => (.ok []) >>= fun ds => .ok (d :: ds)) >>= m_depths) >>= fun a => (getV 6 e) >>= fun b => neG a b) >>= asB)) fun b => if b = true then (liftR e ((.ok (.bl false))) .rt) else (.nx e))).then fun e => (((liftR e ((((getV 5 e) >>= fun d => (((getV 3 e) >>= fun a => ((getV 4 e) >>= asI) >>= fun lo => (.ok none) >>= fun hi => slO a lo hi) >>= fun d => (.ok []) >>= fun ds => .ok (d :: ds)) >>= fun ds => .ok (d :: ds)) >>= m__law_text)) fun d => optS (tupT 2 (consT (fun d e => some (e.set 8 (some d))) (consT (fun d e => some (e.set 9 (some d))) nilT)) d e))).then fun e => (((liftR e ((((((getV 8 e) >>= lenG) >>= fun a => (.ok (.int 1)) >>= fun b => addG a b) >>= fun d => (.ok []) >>= fun ds => .ok (d :: ds)) >>= range1)) fun ds => forL (fun d e => (optS (some (e.set 10 (some d)))).then fun e => (liftR e (((((((getV 10 e) >>= fun a => (((getV 0 e) >>= fun d => ((.ok (.int 2)) >>= fun d => (.ok []) >>= fun ds => .ok (d :: ds)) >>= fun ds => .ok (d :: ds)) >>= m__law_cell_at) >>= fun b => addG a b) >>= fun a => (.ok (.int 7)) >>= fun b => modI a b) >>= fun a => (.ok (.int 0)) >>= fun b => eqG a b) >>= asB) >>= fun b => if b = true then .ok true else (((getV 10 e) >>= fun a => ((getV 8 e) >>= lenG) >>= fun b => eqG a b) >>= asB))) fun b => if b = true then (liftR e ((((((getV 5 e) >>= fun d => (((getV 9 e) >>= fun a => (getV 10 e) >>= fun b => ixG a b) >>= fun d => ((getV 6 e) >>= fun d => ((((getV 5 e) >>= fun d => (((getV 8 e) >>= fun a => (.ok none) >>= fun lo => ((getV 10 e) >>= asI) >>= fun hi => slO a lo hi) >>= fun d => (.ok []) >>= fun ds => .ok (d :: ds)) >>= fun ds => .ok (d :: ds)) >>= m_tail) >>= fun d => (.ok []) >>= fun ds => .ok (d :: ds)) >>= fun ds => .ok (d :: ds)) >>= fun ds => .ok (d :: ds)) >>= fun ds => .ok (d :: ds)) >>= m__law_tail) >>= asB) >>= fun b => .ok (!b))) fun b => if b = true then (liftR e ((.ok (.bl false))) .rt) else (.nx e)) else (.nx e))) ds e)).then fun e => (liftR e ((.ok (.bl true))) .rt)))))))))))))))
noncomputable def m_law : List D → R D := mden 11 1 den_law
theorem ok_law {fd : FuncData} (T : Tx K mg) (F : FunD K "law" "law" (defArgs s_law) (defBody s_law) (defScope s_law) [] [] (He.ga K "law") fd) : FnOk P w K mg base (L2.CX P w) 4 (He.ga K "law") fd ["script"] (spD K (clsOf K) m_law 1 3) := by
  refine okD (kn := [1, 1, 1, 1, 1, 1, 1, 1, 1, 1, 1]) (kl := [1, 1, 1, 1, 1, 1, 1, 1, 1, 1, 1]) (kx := [1, 1, 1, 1, 1, 1, 1, 1, 1, 1, 1]) (N := N_law) F sc_law rfl rfl (by decide) (fun cdv A outer s H E hr => ?_)
  have hu := hr.units
  have hu1 := hu_of hr
  refine ⟨_, (pss_cons (ps_set (i := 1) nd_law rfl (by first | exact Or.inl rfl | exact Or.inr rfl) (pe_op (r := rAddG K) op_addG pe_int (pe_op op_mod (pe_op op_fdivW (pe_callD (cl__law_cell_at T) (hr.mono (by decide)) rfl (takes_of rfl rfl rfl rfl) (pa_cons (pv 0) (pa_cons pe_int pa_nil))) pe_int) (PE.or (pe_ix (r := rIx K) ix_seq (pe_lst (pa_cons pe_int (pa_cons pe_int pa_nil))) (pe_op op_mod (pe_callD (cl__law_cell_at T) (hr.mono (by decide)) rfl (takes_of rfl rfl rfl rfl) (pa_cons (pv 0) (pa_cons pe_int pa_nil))) pe_int) (fun _ _ => rfl)) (pe_dget hu1 (pe_lst (pa_cons pe_int (pa_cons pe_int pa_nil))) (pe_op op_mod (pe_callD (cl__law_cell_at T) (hr.mono (by decide)) rfl (takes_of rfl rfl rfl rfl) (pa_cons (pv 0) (pa_cons pe_int pa_nil))) pe_int) (fun _ _ => rfl)))))) (pss_cons (ps_set (i := 2) nd_law rfl (by first | exact Or.inl rfl | exact Or.inr rfl) (pe_op (r := rAddG K) op_addG pe_int (pe_op op_mod (pe_op op_fdivW (pe_callD (cl__law_cell_at T) (hr.mono (by decide)) rfl (takes_of rfl rfl rfl rfl) (pa_cons (pv 0) (pa_cons pe_int pa_nil))) pe_int) (PE.or (pe_ix (r := rIx K) ix_seq (pe_lst (pa_cons pe_int (pa_cons pe_int pa_nil))) (pe_op op_mod (pe_callD (cl__law_cell_at T) (hr.mono (by decide)) rfl (takes_of rfl rfl rfl rfl) (pa_cons (pv 0) (pa_cons pe_int pa_nil))) pe_int) (fun _ _ => rfl)) (pe_dget hu1 (pe_lst (pa_cons pe_int (pa_cons pe_int pa_nil))) (pe_op op_mod (pe_callD (cl__law_cell_at T) (hr.mono (by decide)) rfl (takes_of rfl rfl rfl rfl) (pa_cons (pv 0) (pa_cons pe_int pa_nil))) pe_int) (fun _ _ => rfl)))))) (pss_cons (ps_set (i := 3) nd_law rfl (by first | exact Or.inl rfl | exact Or.inr rfl) (pe_slice (r := rSlG K) sl_any (pv 0) (po_some pe_int) (po_some pe_int))) (pss_cons (ps_set (i := 4) nd_law rfl (by first | exact Or.inl rfl | exact Or.inr rfl) (pe_op op_mod (pe_callD (cl__law_cell_at T) (hr.mono (by decide)) rfl (takes_of rfl rfl rfl rfl) (pa_cons (pv 0) (pa_cons pe_int pa_nil))) (pe_op (r := rAddG K) op_addG (pe_callB (id := "len") (r := rLenG K) call_lenG rfl T.free_len (by decide +kernel) (pa_cons (pv 3) pa_nil)) pe_int))) (pss_cons (ps_set (i := 5) nd_law rfl (by first | exact Or.inl rfl | exact Or.inr rfl) (pe_callD (cl__law_house T) (hr.mono (by decide)) rfl (takes_of rfl rfl rfl rfl) (pa_cons (pe_slice (r := rSlG K) sl_any (pv 3) po_none (po_some (pv 4))) (pa_cons (pv 1) (pa_cons (pe_op op_mod (pe_op op_fdivW (pe_callD (cl__law_cell_at T) (hr.mono (by decide)) rfl (takes_of rfl rfl rfl rfl) (pa_cons (pv 0) (pa_cons pe_int pa_nil))) pe_int) pe_int) (pa_cons (pv 2) pa_nil)))))) (pss_cons (ps_if (pt_cmpR (r := rEqD K) (op_eqD hu) (pe_op op_mod (pe_op op_fdivW (pe_callD (cl__law_cell_at T) (hr.mono (by decide)) rfl (takes_of rfl rfl rfl rfl) (pa_cons (pv 0) (pa_cons pe_int pa_nil))) pe_int) pe_int) pe_int (nomark _)) (pss_one (ps_set (i := 5) nd_law rfl (by first | exact Or.inl rfl | exact Or.inr rfl) (pe_callD (cl__law_runs T) (hr.mono (by decide)) rfl (takes_of rfl rfl rfl rfl) (pa_cons (pe_slice (r := rSlG K) sl_any (pv 3) po_none (po_some (pv 4))) (pa_cons (pe_op (r := rAddG K) op_addG pe_int (pe_op op_mod (pv 1) pe_int)) pa_nil))))) pss_nil) (pss_cons (ps_set (i := 6) nd_law rfl (by first | exact Or.inl rfl | exact Or.inr rfl) (pe_callD (cl_depths T) (hr.mono (by decide)) rfl (takes_of rfl rfl rfl rfl) (pa_cons (pv 5) pa_nil))) (pss_cons (ps_if (pt_not (pt_val (pe_callD (cl__law_deep T) (hr.mono (by decide)) rfl (takes_of rfl rfl rfl rfl) (pa_cons (pv 5) (pa_cons (pv 6) pa_nil))))) (pss_one (ps_ret pe_bl)) pss_nil) (pss_cons (ps_set (i := 7) nd_law rfl (by first | exact Or.inl rfl | exact Or.inr rfl) (pe_callD (cl_depths T) (hr.mono (by decide)) rfl (takes_of rfl rfl rfl rfl) (pa_cons (pv 5) pa_nil))) (pss_cons (ps_asg pe_int (pg_sub (pv 7) pe_int (set_any hu1))) (pss_cons (ps_expr (pe_bm PySem.F.plainAttrs_list PySem.F.slot_list_append PySem.F.type_list_append mt_append (pv 7) (pa_cons pe_int pa_nil))) (pss_cons (ps_if (pt_cmpR (r := rNeD K) (op_neD hu) (pe_callD (cl_depths T) (hr.mono (by decide)) rfl (takes_of rfl rfl rfl rfl) (pa_cons (pv 5) pa_nil)) (pv 6) (nomark _)) (pss_one (ps_ret pe_bl)) pss_nil) (pss_cons (ps_asg (pe_callD (cl__law_text T) (hr.mono (by decide)) rfl (takes_of rfl rfl rfl rfl) (pa_cons (pv 5) (pa_cons (pe_slice (r := rSlG K) sl_any (pv 3) (po_some (pv 4)) po_none) pa_nil))) (pg_tupK (K := K) rfl rfl (pgs_cons (pg_name (i := 8) nd_law rfl (by first | exact Or.inl rfl | exact Or.inr rfl)) (pgs_cons (pg_name (i := 9) nd_law rfl (by first | exact Or.inl rfl | exact Or.inr rfl)) pgs_nil)))) (pss_cons (ps_for (passes_of rfl) rfl (pi_range1 rfl T.free_range (pa_cons (pe_op (r := rAddG K) op_addG (pe_callB (id := "len") (r := rLenG K) call_lenG rfl T.free_len (by decide +kernel) (pa_cons (pv 8) pa_nil)) pe_int) pa_nil)) (pg_name (i := 10) nd_law rfl (by first | exact Or.inl rfl | exact Or.inr rfl)) (pss_one (ps_if (PW.pt (pw_or (pt_cmpR (r := rEqD K) (op_eqD hu) (pe_op op_mod (pe_op (r := rAddG K) op_addG (pv 10) (pe_callD (cl__law_cell_at T) (hr.mono (by decide)) rfl (takes_of rfl rfl rfl rfl) (pa_cons (pv 0) (pa_cons pe_int pa_nil)))) pe_int) pe_int (nomark _)) (pw_or1 (pt_cmpR (r := rEqD K) (op_eqD hu) (pv 10) (pe_callB (id := "len") (r := rLenG K) call_lenG rfl T.free_len (by decide +kernel) (pa_cons (pv 8) pa_nil)) (nomark _))))) (pss_one (ps_if (pt_not (pt_val (pe_callD (cl__law_tail T) (hr.mono (by decide)) rfl (takes_of rfl rfl rfl rfl) (pa_cons (pv 5) (pa_cons (PE.or (pe_ix (r := rIx K) ix_seq (pv 9) (pv 10) (fun _ _ => rfl)) (pe_dget hu1 (pv 9) (pv 10) (fun _ _ => rfl))) (pa_cons (pv 6) (pa_cons (pe_callD (cl_tail T) (hr.mono (by decide)) rfl (takes_of rfl rfl rfl rfl) (pa_cons (pv 5) (pa_cons (pe_slice (r := rSlG K) sl_any (pv 8) po_none (po_some (pv 10))) pa_nil))) pa_nil))))))) (pss_one (ps_ret pe_bl)) pss_nil)) pss_nil))) (pss_one (ps_ret pe_bl)))))))))))))))), ?_⟩
  exact (SS.seq (SS.asg rfl (SE.op2 p2_addG nox_addG (SE.intC 1) (SE.op2 p2_modI nox_modI (SE.op2 p2_divI nox_divI (SA.call mden_len (SA.cons (SE.name 0) (SA.cons (SE.intC 0) SA.nil))) (SE.intC 2)) (SE.ix (SE.lst (SA.cons (SE.intC 5) (SA.cons (SE.intC 40) SA.nil)) (by decide)) (SE.op2 p2_modI nox_modI (SA.call mden_len (SA.cons (SE.name 0) (SA.cons (SE.intC 0) SA.nil))) (SE.intC 2))))) (SG.name (by decide) (by decide))) (SS.seq (SS.asg rfl (SE.op2 p2_addG nox_addG (SE.intC 1) (SE.op2 p2_modI nox_modI (SE.op2 p2_divI nox_divI (SA.call mden_len (SA.cons (SE.name 0) (SA.cons (SE.intC 1) SA.nil))) (SE.intC 2)) (SE.ix (SE.lst (SA.cons (SE.intC 4) (SA.cons (SE.intC 94) SA.nil)) (by decide)) (SE.op2 p2_modI nox_modI (SA.call mden_len (SA.cons (SE.name 0) (SA.cons (SE.intC 1) SA.nil))) (SE.intC 2))))) (SG.name (by decide) (by decide))) (SS.seq (SS.asg rfl (SE.sliceO (SE.name 0) (STo.some (SE.intC 3)) (STo.some (SE.intC 303))) (SG.name (by decide) (by decide))) (SS.seq (SS.asg rfl (SE.op2 p2_modI nox_modI (SA.call mden_len (SA.cons (SE.name 0) (SA.cons (SE.intC 2) SA.nil))) (SE.op2 p2_addG nox_addG (SE.call1 p1_len nox_len (SE.name 3)) (SE.intC 1))) (SG.name (by decide) (by decide))) (SS.seq (SS.asg rfl (SA.call mden_len (SA.cons (SE.sliceO (SE.name 3) STo.none (STo.some (SE.name 4))) (SA.cons (SE.name 1) (SA.cons (SE.op2 p2_modI nox_modI (SE.op2 p2_divI nox_divI (SA.call mden_len (SA.cons (SE.name 0) (SA.cons (SE.intC 1) SA.nil))) (SE.intC 188)) (SE.intC 94)) (SA.cons (SE.name 2) SA.nil))))) (SG.name (by decide) (by decide))) (SS.seq (SS.ite rfl (ST.cmp (SE.op2 p2_eq nox_eq (SE.op2 p2_modI nox_modI (SE.op2 p2_divI nox_divI (SA.call mden_len (SA.cons (SE.name 0) (SA.cons (SE.intC 1) SA.nil))) (SE.intC 17672)) (SE.intC 3)) (SE.intC 1))) (SS.asg rfl (SA.call mden_len (SA.cons (SE.sliceO (SE.name 3) STo.none (STo.some (SE.name 4))) (SA.cons (SE.op2 p2_addG nox_addG (SE.intC 1) (SE.op2 p2_modI nox_modI (SE.name 1) (SE.intC 12))) SA.nil))) (SG.name (by decide) (by decide))) SS.nil) (SS.seq (SS.asg rfl (SA.call mden_len (SA.cons (SE.name 5) SA.nil)) (SG.name (by decide) (by decide))) (SS.seq (SS.ite rfl (ST.not (ST.val (SA.call mden_len (SA.cons (SE.name 5) (SA.cons (SE.name 6) SA.nil))))) (SS.ret rfl (SE.blC false) (by decide) (by decide) (by decide)) SS.nil) (SS.seq (SS.asg rfl (SA.call mden_len (SA.cons (SE.name 5) SA.nil)) (SG.name (by decide) (by decide))) (SS.seq (SS.setI rfl (by decide) rfl (SE.intC 41) (SE.intC 0)) (SS.seq (SS.mutL rfl mut_append nox_app (by decide) rfl (SA.cons (SE.intC 0) SA.nil)) (SS.seq (SS.ite rfl (ST.cmp (SE.op2 p2_ne nox_ne (SA.call mden_len (SA.cons (SE.name 5) SA.nil)) (SE.name 6))) (SS.ret rfl (SE.blC false) (by decide) (by decide) (by decide)) SS.nil) (SS.seq (SS.pre (ks := [1, 3, 3, 3, 3, 1, 3, 3, 1, 1, 1]) (SS.asg rfl (SA.call mden_len (SA.cons (SE.name 5) (SA.cons (SE.sliceO (SE.name 3) (STo.some (SE.name 4)) STo.none) SA.nil))) (SG.tup (n := 2) (SGs.cons (SG.name (by decide) (by decide)) (SGs.cons (SG.name (by decide) (by decide)) SGs.nil)))) rfl rfl rfl rfl) (SS.seq (SS.for rfl (SW.range1 (SA.cons (SE.op2 p2_addG nox_addG (SE.call1 p1_len nox_len (SE.name 8)) (SE.intC 1)) SA.nil)) (SG.name (by decide) (by decide)) (SS.ite rfl (ST.or (ST.cmp (SE.op2 p2_eq nox_eq (SE.op2 p2_modI nox_modI (SE.op2 p2_addG nox_addG (SE.name 10) (SA.call mden_len (SA.cons (SE.name 0) (SA.cons (SE.intC 2) SA.nil)))) (SE.intC 7)) (SE.intC 0))) (ST.cmp (SE.op2 p2_eq nox_eq (SE.name 10) (SE.call1 p1_len nox_len (SE.name 8))))) (SS.ite rfl (ST.not (ST.val (SA.call mden_len (SA.cons (SE.name 5) (SA.cons (SE.ix (SE.name 9) (SE.name 10)) (SA.cons (SE.name 6) (SA.cons (SA.call mden_len (SA.cons (SE.name 5) (SA.cons (SE.sliceO (SE.name 8) STo.none (STo.some (SE.name 10))) SA.nil))) SA.nil))))))) (SS.ret rfl (SE.blC false) (by decide) (by decide) (by decide)) SS.nil) SS.nil)) (SS.ret rfl (SE.blC true) (by decide) (by decide) (by decide))))))))))))))))
end
end Pu.k29

namespace Pu.k29
open PySem PySem.Spec PyProof.Rows L2 Pu

abbrev Pr := Nat × Int
def encP (p : Pr) : D := .tup [.str [p.1], .int p.2]
def encR (ps : List Pr) : D := .tup (ps.map encP)
def encH (ds : List (List Pr)) (es : List Int) : D := .tup [.tup (ds.map encR), .tup (es.map D.int)]
def encO : Option Int → D
  | none => .non
  | some i => .int i
@[simp] theorem encO_none : encO none = .non := rfl
@[simp] theorem encO_some {i : Int} : encO (some i) = .int i := rfl
@[simp] theorem encO_non {o : Option Int} : encO o = .non ↔ o = none := by cases o <;> simp
@[simp] theorem flat_encO {o : Option Int} : flat (encO o) = true := by cases o <;> rfl
@[simp] theorem flat_encP {p : Pr} : flat (encP p) = true := rfl
@[simp] theorem flatL_encO {xs : List (Option Int)} : flatL (xs.map encO) = true := flatL_map fun _ _ => flat_encO
@[simp] theorem flatL_encP {xs : List Pr} : flatL (xs.map encP) = true := flatL_map fun _ _ => flat_encP
@[simp] theorem flat_encR {xs : List Pr} : flat (encR xs) = true := flatL_encP
@[simp] theorem flatL_encR {xs : List (List Pr)} : flatL (xs.map encR) = true := flatL_map fun _ _ => flat_encR
theorem at_in {α : Type} {xs : List α} {i : Int} (h0 : 0 ≤ i) (h : i < xs.length) : ∃ x, atI xs i = some x ∧ xs[i.toNat]? = some x := by
  have h1 : i.toNat < xs.length := by omega
  exact ⟨xs[i.toNat], by rw [at_int h0]; exact List.getElem?_eq_getElem h1, List.getElem?_eq_getElem h1⟩
/-! ### doors -/
def doorTo (ps : List Pr) (c : Nat) : Option Int := (ps.find? fun p => decide (p.1 = c)).map (·.2)
theorem find_snoc {p : List Pr} {x : Pr} {q : List Pr} {s : Nat} (h : ∀ y ∈ p, y.1 ≠ s) (hx : x.1 = s) : doorTo (p ++ x :: q) s = some x.2 := by
  unfold doorTo
  rw [List.find?_append, List.find?_eq_none.mpr (fun y m => by simpa using h y m), List.find?_cons]
  simp [hx]
theorem doorTo_none {p : List Pr} {s : Nat} (h : ∀ y ∈ p, y.1 ≠ s) : doorTo p s = none := by
  unfold doorTo
  rw [List.find?_eq_none.mpr (fun y m => by simpa using h y m)]
  rfl
theorem doorTo_mem {p : List Pr} {s : Nat} {i : Int} (h : doorTo p s = some i) : (s, i) ∈ p := by
  unfold doorTo at h
  cases hf : p.find? fun p => decide (p.1 = s) with
  | none => rw [hf] at h; cases h
  | some x =>
    rw [hf] at h
    have := List.find?_some hf
    have e : x.1 = s := by simpa using this
    have e2 : x.2 = i := by simpa using h
    have := List.mem_of_find?_eq_some hf
    rw [← e, ← e2]; exact this
theorem snoc_ne {p : List Pr} {x : Pr} {s : Nat} (hp : ∀ y ∈ p, y.1 ≠ s) (hx : ¬ x.1 = s) : ∀ y ∈ p ++ [x], y.1 ≠ s := fun y m => by
  rcases List.mem_append.mp m with m | m
  · exact hp y m
  · rw [List.mem_singleton.mp m]; exact hx
theorem m_door {ds : List (List Pr)} {es : List Int} {r : Int} {c : Nat} {ps : List Pr} (h : atI ds r = some ps) : m_door_to [encH ds es, .int r, .str [c]] = .ok (encO (doorTo ps c)) := by
  apply eq_of_ro
  unfold m_door_to
  rw [mden_at (by rfl)]
  unfold den_door_to encH
  simp [h, List.replicate, encR]
  refine so_forL (fun p env => (∀ y ∈ p, y.1 ≠ c) ∧ ∃ j1 j2, env = [_, _, some (.str [c]), j1, j2]) ⟨by simp, none, none, rfl⟩ (fun p x q env e ⟨hp, j1, j2, ee⟩ => ?_) (fun env ⟨hp, j1, j2, ee⟩ => ?_)
  · subst ee
    simp only [encP]
    simp [-List.mem_append]
    refine ⟨fun hx => ?_, fun hx => ?_⟩
    · rw [e, find_snoc hp hx]; rfl
    · exact fun a b m => snoc_ne hp hx (a, b) m
  · rw [doorTo_none hp]; rfl
structure WF (many : Int) (ds : List (List Pr)) (es : List Int) : Prop where
  len : ds.length = many
  pos : 0 < many
  small : many ≤ 100
  tgt : ∀ ps ∈ ds, ∀ p ∈ ps, 0 ≤ p.2 ∧ p.2 < many
  end_ : ∀ r ∈ es, 0 ≤ r ∧ r < many
  short : ∀ ps ∈ ds, ps.length ≤ 100000
def goesFrom (ds : List (List Pr)) : Int → Txt → Option Int
  | r, [] => some r
  | r, c :: t => (atI ds r).bind fun ps => (doorTo ps c).bind fun r' => goesFrom ds r' t
theorem goes_app {ds : List (List Pr)} : ∀ {r : Int} {t u : Txt}, goesFrom ds r (t ++ u) = (goesFrom ds r t).bind fun r' => goesFrom ds r' u
  | r, [], u => rfl
  | r, c :: t, u => by
    rw [List.cons_append]
    show ((atI ds r).bind fun ps => (doorTo ps c).bind fun r' => goesFrom ds r' (t ++ u)) = ((atI ds r).bind fun ps => (doorTo ps c).bind fun r' => goesFrom ds r' t).bind _
    cases h : atI ds r with
    | none => rfl
    | some ps =>
      cases h2 : doorTo ps c with
      | none => simp [h2]
      | some r' => simp [h2, goes_app]
theorem goes_snoc {ds : List (List Pr)} {r : Int} {t : Txt} {c : Nat} : goesFrom ds r (t ++ [c]) = (goesFrom ds r t).bind fun r' => (atI ds r').bind fun ps => doorTo ps c := by
  rw [goes_app]
  congr 1
  funext r'
  show ((atI ds r').bind fun ps => (doorTo ps c).bind fun r' => some r') = _
  congr 1
  funext ps
  cases doorTo ps c <;> rfl
section
variable {many : Int} {ds : List (List Pr)} {es : List Int}
theorem WF.door (w : WF many ds es) {r : Int} {ps : List Pr} {c : Nat} {r' : Int} (h : atI ds r = some ps) (h2 : doorTo ps c = some r') : 0 ≤ r' ∧ r' < many := by
  have m : ps ∈ ds := by
    unfold atI at h
    obtain ⟨j, _, hj⟩ := Option.bind_eq_some_iff.mp h
    exact List.mem_of_getElem? hj
  exact w.tgt ps m _ (doorTo_mem h2)
theorem WF.at (w : WF many ds es) {r : Int} (h : 0 ≤ r ∧ r < many) : ∃ ps, atI ds r = some ps ∧ ds[r.toNat]? = some ps := at_in h.1 (by rw [w.len]; exact h.2)
theorem m_goes_ok (w : WF many ds es) {t : Txt} : m_goes [encH ds es, .str t] = .ok (encO (goesFrom ds 0 t)) := by
  apply eq_of_ro
  unfold m_goes
  rw [mden_at (by rfl)]
  unfold den_goes
  simp [List.replicate]
  refine so_forL (fun p env => ∃ r j, goesFrom ds 0 p = some r ∧ (0 ≤ r ∧ r < many) ∧ env = [_, _, some (.int r), j]) ⟨0, none, rfl, ⟨Int.le_refl 0, w.pos⟩, rfl⟩ (fun p c q env e ⟨r, j, hg, hr, ee⟩ => ?_) (fun env ⟨r, j, hg, hr, ee⟩ => ?_)
  · subst ee
    obtain ⟨ps, h1, h2⟩ := w.at hr
    have hs : goesFrom ds 0 (p ++ [c]) = doorTo ps c := by rw [goes_snoc, hg]; simp [h1]
    simp [m_door h1]
    refine ⟨fun hn => ?_, fun hn => ?_⟩
    · have : goesFrom ds 0 t = none := by
        rw [e, show p ++ c :: q = (p ++ [c]) ++ q by simp, goes_app, hs, hn]; rfl
      rw [this]; rfl
    · cases hd : doorTo ps c with
      | none => exact absurd hd hn
      | some r' => exact ⟨r', by rw [hs, hd], w.door h1 hd, by simp⟩
  · subst ee
    simp [hg]
end
end Pu.k29

namespace Pu.k29
open PySem PySem.Spec PyProof.Rows L2 Pu

/-! ### tables of rooms -/
def tab (n : Nat) (f : Nat → Option Int) : D := .lst ((List.range n).map fun i => encO (f i))
theorem at_range {α : Type} {n : Nat} {f : Nat → α} {i : Int} (h0 : 0 ≤ i) (h : i < n) : atI ((List.range n).map f) i = some (f i.toNat) := by
  have h1 : i.toNat < n := by omega
  rw [at_int h0, List.getElem?_map, List.getElem?_range h1]; rfl
theorem set_range {α : Type} {n : Nat} {f : Nat → α} {m : Nat} {v : α} : ((List.range n).map f).set m v = (List.range n).map fun j => if j = m then v else f j := by
  apply List.ext_getElem?
  intro j
  rw [List.getElem?_set, List.getElem?_map, List.getElem?_map]
  by_cases hj : j < n
  · rw [List.getElem?_range hj]
    by_cases e : m = j
    · subst e; simp [hj]
    · rw [if_neg e]; simp; exact fun z => absurd z.symm e
  · rw [List.getElem?_eq_none (by simpa using hj)]
    by_cases e : m = j
    · subst e; simp [hj]
    · simp [e]
@[simp] theorem eq_encO_int {o : Option Int} {i : Int} : eqG (encO o) (.int i) = .ok (.bl (decide (o = some i))) := by
  cases o with
  | none => simp
  | some j => simp
theorem scVs_O : ∀ xs : List (Option Int), ∃ vs, scVs (xs.map encO) = some vs ∧ ∀ d, inV (.int d) vs = decide (some d ∈ xs)
  | [] => ⟨[], rfl, fun d => rfl⟩
  | o :: xs => by
    obtain ⟨vs, h1, h2⟩ := scVs_O xs
    cases o with
    | none =>
      refine ⟨.non :: vs, by simp [scVs, scV, h1], fun d => ?_⟩
      show (eqV .non (.int d) || inV (.int d) vs) = _
      rw [h2]; simp [eqV]
    | some i =>
      refine ⟨.int i :: vs, by simp [scVs, scV, h1], fun d => ?_⟩
      show (eqV (.int i) (.int d) || inV (.int d) vs) = _
      rw [h2, Bool.eq_iff_iff]
      simp [eqV]
      exact or_congr ⟨fun h => h.symm, fun h => h.symm⟩ Iff.rfl
theorem in_O {xs : List (Option Int)} {d : Int} : inG (.int d) (.lst (xs.map encO)) = .ok (.bl (decide (some d ∈ xs))) := by
  obtain ⟨vs, h1, h2⟩ := scVs_O xs
  show (inL (.int d) (xs.map encO) >>= fun b => okB b) = _
  unfold inL
  rw [h1]
  show okB (inV (.int d) vs) = _
  rw [h2]; rfl
theorem tab_eq {n : Nat} {f : Nat → Option Int} : tab n f = .lst (((List.range n).map f).map encO) := by
  unfold tab; rw [List.map_map]; rfl
theorem in_tab {n : Nat} {f : Nat → Option Int} {d : Int} : inG (.int d) (tab n f) = .ok (.bl (decide (∃ i, i < n ∧ f i = some d))) := by
  rw [tab_eq, in_O]
  congr 2
  simp
/-! ### levels -/
def Lv (n : Nat) (nb : Nat → List Nat) (en : Nat → Prop) (f : Nat → Option Int) (deep : Int) : Prop := ∀ i, i < n →
  (en i → f i = some 0) ∧ (∀ v, f i = some v → 0 ≤ v ∧ v ≤ deep ∧ (v = 0 → en i) ∧ (0 < v → ¬ en i ∧ (∃ p ∈ nb i, f p = some (v - 1)) ∧ ∀ p ∈ nb i, ∀ u, f p = some u → v - 1 ≤ u)) ∧
    (f i = none → ∀ p ∈ nb i, ∀ u, f p = some u → deep ≤ u)
def nxt (nb : Nat → List Nat) (f : Nat → Option Int) (deep : Int) (i : Nat) : Option Int := if f i = none ∧ ∃ p ∈ nb i, f p = some deep then some (deep + 1) else f i
theorem nxt_some {nb : Nat → List Nat} {f : Nat → Option Int} {deep : Int} {i : Nat} {u : Int} (h : nxt nb f deep i = some u) : f i = some u ∨ u = deep + 1 := by
  unfold nxt at h
  split at h
  · exact .inr (by simpa using h.symm)
  · exact .inl h
theorem nxt_keep {nb : Nat → List Nat} {f : Nat → Option Int} {deep : Int} {i : Nat} {u : Int} (h : f i = some u) : nxt nb f deep i = some u := by
  unfold nxt
  rw [if_neg fun z => by rw [z.1] at h; cases h]; exact h
theorem Lv.next {n : Nat} {nb : Nat → List Nat} {en : Nat → Prop} {f : Nat → Option Int} {deep : Int} (h0 : 0 ≤ deep) (h : Lv n nb en f deep) : Lv n nb en (nxt nb f deep) (deep + 1) := fun i hi => by
  obtain ⟨a, b, c⟩ := h i hi
  refine ⟨fun z => nxt_keep (a z), fun v hv => ?_, fun hn p hp u hu => ?_⟩
  · by_cases hc : f i = none ∧ ∃ p ∈ nb i, f p = some deep
    · have e : v = deep + 1 := by
        unfold nxt at hv
        rw [if_pos hc] at hv
        simpa using hv.symm
      subst e
      obtain ⟨hn, p, hp, hd⟩ := hc
      refine ⟨by omega, by omega, fun z => by omega, fun _ => ⟨(fun z => by rw [a z] at hn; cases hn), ⟨p, hp, ?_⟩, fun p hp u hu => ?_⟩⟩
      · rw [show deep + 1 - 1 = deep by omega]; exact nxt_keep hd
      · rcases nxt_some hu with hu | hu
        · have := c hn p hp u hu; omega
        · omega
    · have e : f i = some v := by
        unfold nxt at hv
        rw [if_neg hc] at hv
        exact hv
      obtain ⟨b1, b2, b3, b4⟩ := b v e
      refine ⟨b1, by omega, b3, fun z => ?_⟩
      obtain ⟨c1, ⟨p, hp, hpv⟩, c3⟩ := b4 z
      refine ⟨c1, ⟨p, hp, nxt_keep hpv⟩, fun p hp u hu => ?_⟩
      rcases nxt_some hu with hu | hu
      · exact c3 p hp u hu
      · omega
  · have hn' : f i = none ∧ ¬ ∃ p ∈ nb i, f p = some deep := by
      unfold nxt at hn
      split at hn
      · cases hn
      · rename_i hc
        exact ⟨hn, fun z => hc ⟨hn, z⟩⟩
    rcases nxt_some hu with hu | hu
    · have h1 := c hn'.1 p hp u hu
      have h2 : u ≠ deep := fun z => hn'.2 ⟨p, hp, by rw [← z]; exact hu⟩
      omega
    · omega
def Good (n : Nat) (nb : Nat → List Nat) (en : Nat → Prop) (f : Nat → Option Int) : Prop := ∀ i, i < n →
  (en i → f i = some 0) ∧ (∀ v, f i = some v → 0 ≤ v ∧ (v = 0 → en i) ∧ (0 < v → ¬ en i ∧ (∃ p ∈ nb i, f p = some (v - 1)) ∧ ∀ p ∈ nb i, ∀ u, f p = some u → v - 1 ≤ u)) ∧ (f i = none → ∀ p ∈ nb i, f p = none)
theorem Lv.good {n : Nat} {nb : Nat → List Nat} {en : Nat → Prop} {f : Nat → Option Int} {deep : Int} (h : Lv n nb en f deep) (hb : ∀ i, i < n → ∀ p ∈ nb i, p < n) (hd : ¬ ∃ i, i < n ∧ f i = some deep) : Good n nb en f := fun i hi => by
  obtain ⟨a, b, c⟩ := h i hi
  refine ⟨a, fun v hv => ?_, fun hn p hp => ?_⟩
  · obtain ⟨b1, b2, b3, b4⟩ := b v hv
    exact ⟨b1, b3, b4⟩
  · cases hf : f p with
    | none => rfl
    | some u =>
      exfalso
      have h1 := c hn p hp u hf
      have h2 := ((h p (hb i hi p hp)).2.1 u hf).2.1
      exact hd ⟨p, hb i hi p hp, by rw [hf]; congr 1; omega⟩
/-! ### what the walk of the rooms sees -/
def nbs (ds : List (List Pr)) (i : Nat) : List Nat := (ds.getD i []).map fun p => p.2.toNat
def ens (es : List Int) (i : Nat) : Prop := (i : Int) ∈ es
instance {es : List Int} {i : Nat} : Decidable (ens es i) := inferInstanceAs (Decidable ((i : Int) ∈ es))
section
variable {many : Int} {ds : List (List Pr)} {es : List Int}
theorem WF.nb (w : WF many ds es) {i : Nat} (hi : i < ds.length) : ∀ p ∈ nbs ds i, p < ds.length := fun p hp => by
  unfold nbs at hp
  obtain ⟨q, hq, rfl⟩ := List.mem_map.mp hp
  have e : ds.getD i [] = ds[i] := by simp [hi]
  rw [e] at hq
  have := w.tgt _ (List.getElem_mem hi) q hq
  have h2 := w.len
  omega
theorem m_near {n : Nat} {f : Nat → Option Int} {ps : List Pr} {deep : Int} (h : ∀ p ∈ ps, 0 ≤ p.2 ∧ p.2 < n) : m_near_end [tab n f, encR ps, .int deep] = .ok (.bl (decide (∃ p ∈ ps, f p.2.toNat = some deep))) := by
  apply eq_of_ro
  unfold m_near_end
  rw [mden_at (by rfl)]
  unfold den_near_end encR tab
  simp [List.replicate]
  refine so_forL (fun p env => (∀ y ∈ p, ¬ f y.2.toNat = some deep) ∧ ∃ j1 j2, env = [_, _, some (.int deep), j1, j2]) ⟨by simp, none, none, rfl⟩ (fun p x q env e ⟨hp, j1, j2, ee⟩ => ?_) (fun env ⟨hp, j1, j2, ee⟩ => ?_)
  · subst ee
    have hx := h x (by rw [e]; simp)
    simp only [encP]
    simp [-List.mem_append, at_range hx.1 hx.2]
    refine ⟨fun hd => ⟨x.1, x.2, by rw [e]; simp, hd⟩, fun hd a b m => ?_⟩
    rcases List.mem_append.mp m with m | m
    · exact hp (a, b) m
    · have := List.mem_singleton.mp m
      rw [← this] at hd; exact hd
  · exact fun a b m => hp (a, b) m
theorem numbered_map {α : Type} {g : α → D} : ∀ (k : Nat) (xs : List α), numbered (k : Int) (xs.map g) = (xs.zipIdx k).map fun p => D.tup [.int (p.2 : Nat), g p.1]
  | k, [] => rfl
  | k, x :: xs => by
    have := numbered_map (g := g) (k + 1) xs
    rw [List.map_cons, List.zipIdx_cons, List.map_cons]
    show D.tup [.int k, g x] :: numbered ((k : Int) + 1) (xs.map g) = _
    rw [show (k : Int) + 1 = ((k + 1 : Nat) : Int) by omega, this]
end
end Pu.k29

namespace Pu.k29
open PySem PySem.Spec PyProof.Rows L2 Pu
section
variable {many : Int} {ds : List (List Pr)} {es : List Int}
theorem small_line {n : Nat} (h : n ≤ 100000) : n ≤ sizeLine := Nat.le_trans h (by decide)
theorem WF.line (w : WF many ds es) : ds.length ≤ sizeLine := small_line (by have := w.len; have := w.small; omega)
theorem tab0 {α : Type} {xs : List α} : (xs.map fun _ => D.non) = (List.range xs.length).map fun i => encO ((fun _ => none) i) := by
  apply List.ext_getElem?
  intro i
  rw [List.getElem?_map, List.getElem?_map]
  by_cases h : i < xs.length
  · rw [List.getElem?_range h, List.getElem?_eq_getElem h]; rfl
  · rw [List.getElem?_eq_none (by omega), List.getElem?_eq_none (by simpa using Nat.le_of_not_lt h)]; rfl
theorem put_tab {n : Nat} {f : Nat → Option Int} {i : Int} {v : Option Int} (h0 : 0 ≤ i) (h : i < n) : putG (tab n f) (.int i) (encO v) = .ok (tab n fun j => if j = i.toNat then v else f j) := by
  apply eq_of_ro
  unfold tab
  simp
  refine ⟨i.toNat, ?_, ?_⟩
  · have := ixN_nat (n := n) (i := i.toNat) (by omega)
    rw [show ((i.toNat : Nat) : Int) = i by omega] at this
    exact this
  · rw [set_range]
    apply List.map_congr_left
    intro j _
    by_cases e : j = i.toNat
    · simp [e]
    · simp [e]
theorem ix_tab {n : Nat} {f : Nat → Option Int} {i : Int} {P : D → Prop} {E : Nat → Prop} (h0 : 0 ≤ i) (h : i < n) : Ro (ixG (tab n f) (.int i)) P E ↔ P (encO (f i.toNat)) := by
  unfold tab
  simp [at_range h0 h]
theorem ix_H0 {ds : List (List Pr)} {es : List Int} : ixG (encH ds es) (.int 0) = .ok (.tup (ds.map encR)) := by
  apply eq_of_ro; unfold encH; simp
theorem ix_H1 {ds : List (List Pr)} {es : List Int} : ixG (encH ds es) (.int 1) = .ok (.tup (es.map D.int)) := by
  apply eq_of_ro; unfold encH; simp
def mu (e : Env) : Nat := match getV 1 e, getV 4 e with
  | .ok (.lst fs), .ok d => 2 * fs.count .non + (if d ∈ fs then 1 else 0)
  | _, _ => 0
theorem count_le {n : Nat} {f g : Nat → Option Int} (h : ∀ i, f i ≠ none → g i ≠ none) : ((List.range n).map fun i => encO (g i)).count .non ≤ ((List.range n).map fun i => encO (f i)).count .non := by
  induction List.range n with
  | nil => simp
  | cons a l ih =>
    rw [List.map_cons, List.map_cons, List.count_cons, List.count_cons]
    have : (if (encO (g a) == D.non) = true then 1 else 0) ≤ (if (encO (f a) == D.non) = true then 1 else 0) := by
      by_cases hg : g a = none
      · by_cases hf : f a = none
        · simp [hg, hf]
        · exact absurd hg (h a hf)
      · simp [hg]
    omega
theorem count_lt {n : Nat} {f g : Nat → Option Int} (h : ∀ i, f i ≠ none → g i ≠ none) {j : Nat} (hj : j < n) (h1 : f j = none) (h2 : g j ≠ none) : ((List.range n).map fun i => encO (g i)).count .non < ((List.range n).map fun i => encO (f i)).count .non := by
  have key : ∀ l : List Nat, j ∈ l → (l.map fun i => encO (g i)).count .non < (l.map fun i => encO (f i)).count .non := by
    intro l
    induction l with
    | nil => intro m; simp at m
    | cons a l ih =>
      intro m
      have le : (l.map fun i => encO (g i)).count .non ≤ (l.map fun i => encO (f i)).count .non := by
        clear ih m
        induction l with
        | nil => simp
        | cons a l ih =>
          rw [List.map_cons, List.map_cons, List.count_cons, List.count_cons]
          have : (if (encO (g a) == D.non) = true then 1 else 0) ≤ (if (encO (f a) == D.non) = true then 1 else 0) := by
            by_cases hg : g a = none
            · by_cases hf : f a = none
              · simp [hg, hf]
              · exact absurd hg (h a hf)
            · simp [hg]
          omega
      rw [List.map_cons, List.map_cons, List.count_cons, List.count_cons]
      by_cases e : j = a
      · subst e
        simp [h1, h2]
        omega
      · have m' : j ∈ l := (List.mem_cons.mp m).resolve_left e
        have := ih m'
        have : (if (encO (g a) == D.non) = true then 1 else 0) ≤ (if (encO (f a) == D.non) = true then 1 else 0) := by
          by_cases hg : g a = none
          · by_cases hf : f a = none
            · simp [hg, hf]
            · exact absurd hg (h a hf)
          · simp [hg]
        omega
  exact key _ (List.mem_range.mpr hj)
/-- the round's turn: the rooms ahead of i are done -/
def part (nb : Nat → List Nat) (f : Nat → Option Int) (deep : Int) (k i : Nat) : Option Int := if i < k then nxt nb f deep i else f i
theorem part_deep {nb : Nat → List Nat} {f : Nat → Option Int} {deep : Int} {k i : Nat} : part nb f deep k i = some deep ↔ f i = some deep := by
  unfold part
  split
  · unfold nxt
    split
    · rename_i h
      constructor
      · intro z; exfalso; injection z with z; omega
      · intro z; rw [h.1] at z; cases z
    · exact Iff.rfl
  · exact Iff.rfl
theorem mu0 (a : Option D) (f : Nat → Option Int) (b c : Option D) {n : Nat} : (0 : Int) + (mu [a, some (tab n f), b, c, some (.int 0)] : Nat) ≤ 2 * (n : Nat) + 1 := by
  have h : ((List.range n).map fun i => encO (f i)).count .non ≤ n := by
    have := List.count_le_length (a := D.non) (l := (List.range n).map fun i => encO (f i))
    rw [List.length_map, List.length_range] at this
    exact this
  show (0 : Int) + ((2 * ((List.range n).map fun i => encO (f i)).count .non + (if D.int 0 ∈ ((List.range n).map fun i => encO (f i)) then 1 else 0) : Nat) : Int) ≤ _
  split <;> omega
theorem m_depths_ok (w : WF many ds es) : ∃ f, m_depths [encH ds es] = .ok (tab ds.length f) ∧ Good ds.length (nbs ds) (ens es) f ∧ ∀ i v, i < ds.length → f i = some v → v ≤ 1000 := by
  suffices h : Ro (m_depths [encH ds es]) (fun d => ∃ f, d = tab ds.length f ∧ Good ds.length (nbs ds) (ens es) f ∧ ∀ i v, i < ds.length → f i = some v → v ≤ 1000) (fun _ => False) by
    obtain ⟨v, h1, f, h2, h3⟩ := ex_of_ro h
    exact ⟨f, by rw [h1, h2], h3⟩
  have wl := w.len
  unfold m_depths
  rw [mden_at (by rfl)]
  unfold den_depths
  simp [List.replicate, wipeE, ix_H0, ix_H1]
  refine ⟨w.line, ?_⟩
  rw [comp_all (enc := encR) (fun _ => D.non) (xs := ds) fun x _ => ⟨_, rfl, rfl⟩, ro_ok, tab0]
  refine so_forL (fun p env => ∃ j2 j3, env = [some (encH ds es), some (tab ds.length fun i => if ens p i then some 0 else none), j2, j3, none]) ⟨none, none, by simp [ens, tab]⟩ (fun p r q env e ⟨j2, j3, ee⟩ => ?_) (fun env ⟨j2, j3, ee⟩ => ?_)
  · subst ee
    have hr := w.end_ r (by rw [e]; simp)
    have := put_tab (n := ds.length) (f := fun i => if ens p i then some 0 else none) (v := some 0) hr.1 (by omega)
    rw [encO_some] at this
    simp [this]
    congr 1
    funext j
    unfold ens
    by_cases hj : j = r.toNat
    · subst hj
      have : ((r.toNat : Nat) : Int) = r := by omega
      simp [this]
    · have : ¬ (j : Int) = r := fun z => hj (by omega)
      by_cases h3 : (j : Int) ∈ p <;> simp [hj, this, h3]
  · subst ee
    simp
    refine so_whileS (fun env => ∃ f deep j2 j3, env = [some (encH ds es), some (tab ds.length f), j2, j3, some (.int deep)] ∧ 0 ≤ deep ∧ deep + (mu env : Nat) ≤ 2 * (ds.length : Nat) + 1 ∧ Lv ds.length (nbs ds) (ens es) f deep) mu ⟨_, 0, _, _, rfl, Int.le_refl 0, mu0 _ _ _ _, fun i hi => ⟨fun z => by simp [z], fun v hv => ?_, fun hn p hp u hu => ?_⟩⟩ (fun env ⟨f, deep, j2, j3, ee, h0, hmu, lv⟩ => ?_)
    · have hv : (if ens es i then some (0 : Int) else none) = some v := hv
      split at hv
      · rename_i he
        injection hv with hv
        subst hv
        exact ⟨by omega, by omega, fun _ => he, fun z => by omega⟩
      · cases hv
    · have hu : (if ens es p then some (0 : Int) else none) = some u := hu
      split at hu
      · injection hu with hu; omega
      · cases hu
    · subst ee
      simp [in_tab]
      refine ⟨fun x hx hfx => ?_, fun hno => ?_⟩
      · have ⟨j2', ej2⟩ : ∃ z, z = j2 := ⟨_, rfl⟩
        have ⟨j3', ej3⟩ : ∃ z, z = j3 := ⟨_, rfl⟩
        subst ej2 ej3
        have hnum : numbered 0 (ds.map encR) = ds.zipIdx.map fun p => D.tup [.int (p.2 : Nat), encR p.1] := numbered_map 0 ds
        rw [ix_H0, ro_ok, show enumG [D.tup (ds.map encR)] = .ok (numbered 0 (ds.map encR)) from rfl, ro_ok, hnum]
        refine so_forL (fun p env => ∃ j2 j3, env = [some (encH ds es), some (tab ds.length (part (nbs ds) f deep p.length)), j2, j3, some (.int deep)]) ⟨j2', j3', by simp; congr 1⟩ (fun p y q env e ⟨j2, j3, ee⟩ => ?_) (fun env ⟨j2, j3, ee⟩ => ?_)
        · subst ee
          have hy : ds.zipIdx[p.length]? = some y := by rw [e]; simp
          rw [List.getElem?_zipIdx] at hy
          obtain ⟨ps, hp1, hp2⟩ := Option.map_eq_some_iff.mp hy
          have hlt : p.length < ds.length := (List.getElem?_eq_some_iff.mp hp1).1
          have e1 : y.1 = ps := by rw [← hp2]
          have e2 : y.2 = p.length := by rw [← hp2]; simp
          have hps : nbs ds p.length = ps.map fun p => p.2.toNat := by unfold nbs; rw [List.getD_eq_getElem?_getD, hp1]; rfl
          have hin : ∀ z ∈ ps, 0 ≤ z.2 ∧ z.2 < (ds.length : Nat) := fun z hz => by
            have := w.tgt ps (List.mem_of_getElem? hp1) z hz
            omega
          have hnear := m_near (f := part (nbs ds) f deep p.length) (deep := deep) hin
          have hex : (∃ z ∈ ps, part (nbs ds) f deep p.length z.2.toNat = some deep) ↔ ∃ z ∈ nbs ds p.length, f z = some deep := by
            rw [hps]
            constructor
            · rintro ⟨z, hz, hd⟩
              exact ⟨z.2.toNat, List.mem_map_of_mem hz, part_deep.mp hd⟩
            · rintro ⟨z, hz, hd⟩
              obtain ⟨z', hz', rfl⟩ := List.mem_map.mp hz
              exact ⟨z', hz', part_deep.mpr hd⟩
          have hself : part (nbs ds) f deep p.length p.length = f p.length := by unfold part; rw [if_neg (Nat.lt_irrefl _)]
          have keep : ∀ {v : Option Int}, v = nxt (nbs ds) f deep p.length → (fun j => if j = p.length then v else part (nbs ds) f deep p.length j) = part (nbs ds) f deep (p.length + 1) := fun {v} hv => by
            funext j
            unfold part
            by_cases h1 : j = p.length
            · subst h1; simp [hv]
            · by_cases h2 : j < p.length
              · rw [if_neg h1, if_pos h2, if_pos (by omega)]
              · rw [if_neg h1, if_neg h2, if_neg (by omega)]
          have same : f p.length = nxt (nbs ds) f deep p.length → part (nbs ds) f deep p.length = part (nbs ds) f deep (p.length + 1) := fun hv => by
            rw [← keep hv]
            funext j
            by_cases h1 : j = p.length
            · rw [if_pos h1, h1, hself]
            · rw [if_neg h1]
          rw [e1, e2]
          have hput := put_tab (n := ds.length) (f := part (nbs ds) f deep p.length) (i := (p.length : Nat)) (v := some (deep + 1)) (by omega) (by omega)
          rw [encO_some] at hput
          simp [ix_tab (n := ds.length) (i := (p.length : Nat)) (by omega) (by omega), hself, hnear, hex, hput]
          refine ⟨fun hn => ⟨fun z hz hd => ?_, fun hno => ?_⟩, fun hn => ?_⟩
          · have := keep (v := some (deep + 1)) (by unfold nxt; rw [if_pos ⟨hn, z, hz, hd⟩])
            rw [← this]
          · rw [same (by unfold nxt; rw [if_neg fun z => by obtain ⟨_, a, b, c⟩ := z; exact hno a b c])]
          · rw [same (by unfold nxt; rw [if_neg fun z => hn z.1])]
        · subst ee
          simp
          have hl : ds.zipIdx.length = ds.length := List.length_zipIdx
          have hfin : tab ds.length (part (nbs ds) f deep ds.zipIdx.length) = tab ds.length (nxt (nbs ds) f deep) := by
            unfold tab
            congr 1
            apply List.map_congr_left
            intro i hi
            unfold part
            rw [if_pos (by rw [hl]; exact List.mem_range.mp hi)]
          rw [hl] at hfin
          rw [hfin]
          suffices hlt : mu [some (encH ds es), some (tab ds.length (nxt (nbs ds) f deep)), j2, j3, some (.int (deep + 1))] < mu [some (encH ds es), some (tab ds.length f), j2', j3', some (.int deep)] from
            ⟨⟨_, deep + 1, ⟨rfl, rfl⟩, by omega, by omega, lv.next h0⟩, hlt⟩
          show 2 * ((List.range ds.length).map fun i => encO (nxt (nbs ds) f deep i)).count .non + (if D.int (deep + 1) ∈ ((List.range ds.length).map fun i => encO (nxt (nbs ds) f deep i)) then 1 else 0) <
            2 * ((List.range ds.length).map fun i => encO (f i)).count .non + (if D.int deep ∈ ((List.range ds.length).map fun i => encO (f i)) then 1 else 0)
          have hm : D.int deep ∈ ((List.range ds.length).map fun i => encO (f i)) := List.mem_map.mpr ⟨x, List.mem_range.mpr hx, by rw [hfx]; rfl⟩
          rw [if_pos hm]
          have hle : ∀ i, f i ≠ none → nxt (nbs ds) f deep i ≠ none := fun i hi z => by
            cases hfi : f i with
            | none => exact hi hfi
            | some u => rw [nxt_keep hfi] at z; cases z
          by_cases hnew : ∃ i, i < ds.length ∧ f i = none ∧ nxt (nbs ds) f deep i ≠ none
          · obtain ⟨i, hi, h1, h2⟩ := hnew
            have := count_lt (n := ds.length) hle hi h1 h2
            split <;> omega
          · have := count_le (n := ds.length) hle
            rw [if_neg fun hmem => ?_]
            · omega
            · obtain ⟨i, hi, he⟩ := List.mem_map.mp hmem
              have hi := List.mem_range.mp hi
              cases hfi : f i with
              | none =>
                refine hnew ⟨i, hi, hfi, fun z => ?_⟩
                rw [z] at he; cases he
              | some u =>
                rw [nxt_keep hfi] at he
                have he : u = deep + 1 := by injection he
                have := ((lv i hi).2.1 u hfi).2.1
                omega
      · refine ⟨f, rfl, lv.good (fun i hi => w.nb hi) fun ⟨i, hi, z⟩ => hno i hi z, fun i v hi hv => ?_⟩
        have := ((lv i hi).2.1 v hv).2.1
        have := w.small
        omega
end
end Pu.k29

namespace Pu.k29
open PySem PySem.Spec PyProof.Rows L2 Pu
section
variable {many : Int} {ds : List (List Pr)} {es : List Int} {f : Nat → Option Int}
def firstAt (f : Nat → Option Int) (ps : List Pr) (v : Int) : Option Pr := ps.find? fun p => decide (f p.2.toNat = some (v - 1))
theorem first_snoc {p : List Pr} {x : Pr} {q : List Pr} {v : Int} (h : ∀ y ∈ p, ¬ f y.2.toNat = some (v - 1)) (hx : f x.2.toNat = some (v - 1)) : firstAt f (p ++ x :: q) v = some x := by
  unfold firstAt
  rw [List.find?_append, List.find?_eq_none.mpr (fun y m => by simpa using h y m), List.find?_cons]
  simp [hx]
theorem first_none {p : List Pr} {v : Int} (h : ∀ y ∈ p, ¬ f y.2.toNat = some (v - 1)) : firstAt f p v = none := List.find?_eq_none.mpr fun y m => by simpa using h y m
theorem first_mem {p : List Pr} {v : Int} {x : Pr} (h : firstAt f p v = some x) : x ∈ p ∧ f x.2.toNat = some (v - 1) := ⟨List.mem_of_find?_eq_some h, by simpa using List.find?_some h⟩
theorem snoc_no {p : List Pr} {x : Pr} {v : Int} (hp : ∀ y ∈ p, ¬ f y.2.toNat = some (v - 1)) (hx : ¬ f x.2.toNat = some (v - 1)) : ∀ y ∈ p ++ [x], ¬ f y.2.toNat = some (v - 1) := fun y m => by
  rcases List.mem_append.mp m with m | m
  · exact hp y m
  · rw [List.mem_singleton.mp m]; exact hx
theorem WF.in' (w : WF many ds es) {r : Int} {ps : List Pr} (h : atI ds r = some ps) : ∀ z ∈ ps, 0 ≤ z.2 ∧ z.2 < (ds.length : Nat) := fun z hz => by
  have m : ps ∈ ds := by
    unfold atI at h
    obtain ⟨j, _, hj⟩ := Option.bind_eq_some_iff.mp h
    exact List.mem_of_getElem? hj
  have := w.tgt ps m z hz
  have := w.len
  omega
theorem m_nearer (w : WF many ds es) {r v : Int} {ps : List Pr} {x : Pr} (hr : 0 ≤ r ∧ r < many) (h : atI ds r = some ps) (hv : f r.toNat = some v) (hx : firstAt f ps v = some x) :
    m_nearer_door [encH ds es, tab ds.length f, .int r] = .ok (encP x) := by
  apply eq_of_ro
  unfold m_nearer_door
  rw [mden_at (by rfl)]
  unfold den_nearer_door
  have hl := w.len
  simp [List.replicate, ix_H0, h, encR]
  refine so_forL (fun p env => (∀ y ∈ p, ¬ f y.2.toNat = some (v - 1)) ∧ ∃ j1 j2, env = [some (encH ds es), some (tab ds.length f), some (.int r), j1, j2]) ⟨by simp, none, none, rfl⟩ (fun p y q env e ⟨hp, j1, j2, ee⟩ => ?_) (fun env ⟨hp, j1, j2, ee⟩ => ?_)
  · subst ee
    have hy := w.in' h y (by rw [e]; simp)
    simp only [encP]
    simp [-List.mem_append, ix_tab (n := ds.length) hy.1 hy.2, ix_tab (n := ds.length) (f := f) hr.1 (by omega), hv]
    refine ⟨fun hd => ?_, fun hd a b m => snoc_no hp hd (a, b) m⟩
    refine ⟨by decide, ?_⟩
    have : x = y := by rw [e, first_snoc hp hd] at hx; exact (Option.some.inj hx).symm
    rw [this]; exact ⟨rfl, rfl⟩
  · rw [first_none hp] at hx; cases hx
/-- the way down: its signs, its end -/
def way (ds : List (List Pr)) (f : Nat → Option Int) : Nat → Int → Txt × Int
  | 0, r => ([], r)
  | v + 1, r => match firstAt f (ds.getD r.toNat []) (v + 1 : Nat) with
    | some x => (x.1 :: (way ds f v x.2).1, (way ds f v x.2).2)
    | none => ([], r)
theorem good_first (w : WF many ds es) (g : Good ds.length (nbs ds) (ens es) f) {r : Int} {v : Nat} (hr : 0 ≤ r ∧ r < many) (hv : f r.toNat = some ((v + 1 : Nat) : Int)) :
    ∃ ps x, atI ds r = some ps ∧ ds.getD r.toNat [] = ps ∧ firstAt f ps (v + 1 : Nat) = some x ∧ x ∈ ps ∧ (0 ≤ x.2 ∧ x.2 < many) ∧ f x.2.toNat = some (v : Int) := by
  have hl := w.len
  obtain ⟨ps, h1, h2⟩ := w.at hr
  have hd : ds.getD r.toNat [] = ps := by rw [List.getD_eq_getElem?_getD, h2]; rfl
  obtain ⟨_, ⟨p, hp, hpv⟩, _⟩ := ((g r.toNat (by omega)).2.1 _ hv).2.2 (by omega)
  unfold nbs at hp
  rw [hd] at hp
  obtain ⟨z, hz, rfl⟩ := List.mem_map.mp hp
  cases hf : firstAt f ps (v + 1 : Nat) with
  | none =>
    unfold firstAt at hf
    have := List.find?_eq_none.mp hf z hz
    simp at this
    exact absurd hpv (by simpa using this)
  | some x =>
    obtain ⟨m1, m2⟩ := first_mem hf
    have := w.in' h1 x m1
    refine ⟨ps, x, h1, hd, hf, m1, ⟨this.1, by omega⟩, ?_⟩
    rw [m2]; congr 1; omega
theorem way_len (w : WF many ds es) (g : Good ds.length (nbs ds) (ens es) f) : ∀ {v : Nat} {r : Int}, (0 ≤ r ∧ r < many) → f r.toNat = some (v : Int) → (way ds f v r).1.length = v ∧ v < 1000000 → True := fun _ _ _ => True.intro
def mu2 (e : Env) : Nat := match getV 2 e, getV 3 e with
  | .ok (.int r), .ok (.lst fs) => match fs[r.toNat]? with
    | some (.int v) => v.toNat
    | _ => 0
  | _, _ => 0
theorem mu2_at {n : Nat} {r v : Int} {a b c d : Option D} (h : 0 ≤ r ∧ r < n) (hv : f r.toNat = some v) : mu2 [a, b, some (.int r), some (tab n f), c, d] = v.toNat := by
  have e : ((List.range n).map fun i => encO (f i))[r.toNat]? = some (.int v) := by
    rw [List.getElem?_map, List.getElem?_range (by omega)]
    simp [hv]
  show (match ((List.range n).map fun i => encO (f i))[r.toNat]? with | some (.int v) => v.toNat | _ => 0) = _
  rw [e]
theorem WF.goes (w : WF many ds es) : ∀ {t : Txt} {r0 r : Int}, (0 ≤ r0 ∧ r0 < many) → goesFrom ds r0 t = some r → 0 ≤ r ∧ r < many
  | [], r0, r, h0, h => by
    cases h
    exact h0
  | c :: t, r0, r, h0, h => by
    have h : ((atI ds r0).bind fun ps => (doorTo ps c).bind fun r' => goesFrom ds r' t) = some r := h
    obtain ⟨ps, h1, h⟩ := Option.bind_eq_some_iff.mp h
    obtain ⟨r', h2, h⟩ := Option.bind_eq_some_iff.mp h
    exact WF.goes w (w.door h1 h2) h
theorem m_tail_ok (w : WF many ds es) (hf : m_depths [encH ds es] = .ok (tab ds.length f)) (g : Good ds.length (nbs ds) (ens es) f) (small : ∀ i v, i < ds.length → f i = some v → v ≤ 1000) {t : Txt} :
    m_tail [encH ds es, .str t] = .ok (match goesFrom ds 0 t with
      | none => .non
      | some r => match f r.toNat with
        | none => .non
        | some v => .str (way ds f v.toNat r).1) := by
  have hl := w.len
  have inr : ∀ {r}, goesFrom ds 0 t = some r → 0 ≤ r ∧ r < many := fun h => w.goes ⟨Int.le_refl 0, w.pos⟩ h
  apply eq_of_ro
  unfold m_tail
  rw [mden_at (by rfl)]
  unfold den_tail
  simp [List.replicate, m_goes_ok w, hf]
  refine ⟨fun hn => by rw [hn], fun hn => ?_⟩
  cases hg : goesFrom ds 0 t with
  | none => exact absurd hg hn
  | some r =>
    have hr := inr hg
    simp [ix_tab (n := ds.length) hr.1 (by omega)]
    refine ⟨fun hn => by rw [hn], fun hn => ?_⟩
    cases hv : f r.toNat with
    | none => exact absurd hv hn
    | some v =>
      have v0 : 0 ≤ v := ((g r.toNat (by omega)).2.1 v hv).1
      refine so_whileS (fun env => ∃ (told : Txt) (r' : Int) (v' : Nat) (j : Option D), env = [some (encH ds es), some (.str t), some (.int r'), some (tab ds.length f), some (.str told), j] ∧ (0 ≤ r' ∧ r' < many) ∧ f r'.toNat = some (v' : Int) ∧ told ++ (way ds f v' r').1 = (way ds f v.toNat r).1 ∧ told.length + v' ≤ 1000) mu2
        ⟨[], r, v.toNat, none, by rfl, hr, by rw [hv]; congr 1; omega, rfl, by have := small r.toNat v (by omega) hv; simp; omega⟩ (fun env ⟨told, r', v', j, ee, hr', hv', hw, hs⟩ => ?_)
      subst ee
      simp [ix_tab (n := ds.length) hr'.1 (show r' < (ds.length : Nat) by omega), hv']
      refine ⟨fun hp => ?_, fun h0 => ?_⟩
      · obtain ⟨k, rfl⟩ : ∃ k, v' = k + 1 := ⟨v' - 1, by omega⟩
        obtain ⟨ps, x, a1, a2, a3, a4, a5, a6⟩ := good_first w g hr' hv'
        simp [m_nearer w hr' a1 hv' a3]
        simp only [encP]
        simp
        refine ⟨by have : told.length + 1 ≤ 1000 := by omega
                   exact small_line (by omega), ⟨_, _, ⟨rfl, rfl⟩, a5, k, a6, ?_, by simp; omega⟩, ?_⟩
        · rw [← hw]
          simp only [way, a2, a3]
          simp
        · rw [mu2_at (n := ds.length) ⟨a5.1, by omega⟩ a6, mu2_at (n := ds.length) ⟨hr'.1, by omega⟩ hv']
          omega
      · have : v' = 0 := by omega
        subst this
        have : (way ds f 0 r').1 = [] := rfl
        rw [this, List.append_nil] at hw
        rw [hw]
end
end Pu.k29

namespace Pu.k29
open PySem PySem.Spec PyProof.Rows L2 Pu
theorem ro_sl_scr {ns : List Int} {lo hi : Option Int} {P : D → Prop} {E : Nat → Prop} : Ro (slO (.scr ns) lo hi) P E ↔ P (.lst ((cutL ns lo hi).map D.int)) := by
  show Ro (own1R (.lst ((cutL ns lo hi).map D.int))) P E ↔ _
  rw [ro_own_lst]
  simp
theorem ro_sl_str {s : Txt} {lo hi : Option Int} {P : D → Prop} {E : Nat → Prop} : Ro (slO (.str s) lo hi) P E ↔ s.length ≤ sizeLine ∧ P (.str (cutL s lo hi)) := by
  show Ro ((if s.length ≤ sizeLine then R.ok (D.str (cutL s lo hi)) else .bad) >>= own1R) P E ↔ _
  by_cases h : s.length ≤ sizeLine
  · rw [if_pos h]; simp [h]
  · rw [if_neg h]; simp [h]
def cell (ns : List Int) (k : Nat) : Int := ns.getD k 0
theorem m_cell {ns : List Int} {k : Nat} : m__law_cell_at [.scr ns, .int k] = .ok (.int (cell ns k)) := by
  apply eq_of_ro
  unfold m__law_cell_at
  rw [mden_at (by rfl)]
  unfold den__law_cell_at cell
  simp [at_nat]
  refine ⟨fun h => by simp [h], fun h => by simp [h]⟩
theorem m_whole {i : Int} : m__law_whole [.int i] = .ok (.bl true) := by
  apply eq_of_ro
  unfold m__law_whole
  rw [mden_at (by rfl)]
  unfold den__law_whole
  simp [show isTy "int" (.int i) = .ok (.bl true) from rfl, show isTy "bool" (.int i) = .ok (.bl false) from rfl]
def menu : Txt := tx " !\"#$&'()*+,-./0123456789:;<=>?@ABCDEFGHIJKLMNOPQRSTUVWXYZ[\\]^_`" ++ tx "abcdefghijklmnopqrstuvwxyz{|}~"
theorem menu_len : menu.length = 94 := by decide +kernel
def sg (n : Int) : Nat := menu.getD (n % 94).toNat 0
theorem m_sign {n : Int} : m__law_sign [.int n] = .ok (.str [sg n]) := by
  apply eq_of_ro
  unfold m__law_sign
  rw [mden_at (by rfl)]
  unfold den__law_sign
  have h0 : 0 ≤ n % 94 := Int.emod_nonneg _ (by decide)
  have h1 : n % 94 < 94 := Int.emod_lt_of_pos _ (by decide)
  obtain ⟨x, hx1, hx2⟩ := at_in (xs := menu) h0 (by rw [menu_len]; exact h1)
  have hl : menu.length ≤ sizeLine := by rw [menu_len]; exact small_line (by decide)
  have hl' := hl
  unfold menu at hl'
  rw [List.length_append] at hl'
  simp
  refine ⟨hl', ?_⟩
  show atI menu (n % 94) = some (sg n)
  rw [hx1]
  unfold sg
  rw [List.getD_eq_getElem?_getD, hx2]; rfl
/-! ### the drawn house -/
def encL (l : List Pr) : D := .lst (l.map encP)
theorem ix_P0 {p : Pr} : ixG (encP p) (.int 0) = .ok (.str [p.1]) := by apply eq_of_ro; unfold encP; simp
theorem ix_P1 {p : Pr} : ixG (encP p) (.int 1) = .ok (.int p.2) := by apply eq_of_ro; unfold encP; simp
def srt (l : List Pr) : List Pr := l.mergeSort fun a b => leD (encP a) (encP b)
def srtI (l : List Int) : List Int := l.mergeSort fun a b => leD (.int a) (.int b)
theorem srt_perm (l : List Pr) : (srt l).Perm l := List.mergeSort_perm _ _
theorem srtI_perm (l : List Int) : (srtI l).Perm l := List.mergeSort_perm _ _
theorem sort_srt {l : List Pr} : sortG (.lst (l.map encP)) = .ok (.lst ((srt l).map encP)) := by
  rw [sort_lst (sortOk_map (fun _ => rfl) (fun _ => rfl) (fun _ _ => rfl) (.inl fun _ => rfl)), sort_map]; rfl
theorem sort_srtI {l : List Int} : sortG (.lst (l.map D.int)) = .ok (.lst ((srtI l).map D.int)) := by
  rw [sort_lst sortOk_ints, sort_map]; rfl
theorem sort_P {l : List Pr} : ∃ l' : List _, l'.Perm l ∧ sortG (.lst (l.map encP)) = .ok (.lst (l'.map encP)) :=
  ⟨_, List.mergeSort_perm l fun a b => leD (encP a) (encP b), by
    rw [sort_lst (sortOk_map (fun _ => rfl) (fun _ => rfl) (fun _ _ => rfl) (.inl fun _ => rfl)), sort_map]⟩
theorem sort_I {l : List Int} : ∃ l' : List _, l'.Perm l ∧ sortG (.lst (l.map D.int)) = .ok (.lst (l'.map D.int)) :=
  ⟨_, List.mergeSort_perm l fun a b => leD (.int a) (.int b), by rw [sort_lst sortOk_ints, sort_map]⟩
/-- rooms' lists while they are made -/
structure Mk (many : Int) (k : Nat) (rs : List (List Pr)) (es : List Int) : Prop where
  len : rs.length = many
  tgt : ∀ ps ∈ rs, ps.length ≤ k ∧ ∀ p ∈ ps, 0 ≤ p.2 ∧ p.2 < many
  end_ : es.length ≤ k ∧ ∀ r ∈ es, 0 ≤ r ∧ r < many
theorem upFrom_len {lo : Int} {n : Nat} : (upFrom lo n).length = n := by simp [upFrom]
theorem range1_int {j : Int} (h0 : 0 ≤ j) (h : j < 1000000) : range1 [.int j] = .ok ((List.range j.toNat).map fun (i : Nat) => D.int i) := by
  show (if big62 j = true then R.ok (upFrom 0 j.toNat) else .bad) = _
  rw [if_pos (by unfold big62; exact decide_eq_true ⟨by omega, by omega⟩)]
  congr 1
  unfold upFrom
  apply List.map_congr_left
  intro i _
  simp
theorem getV_set {e : Env} {i : Nat} {d : D} (h : i < e.length) : getV i (e.set i (some d)) = .ok d := by
  unfold getV
  rw [List.getElem?_set_self h]
theorem signs_comp {l : List Pr} {i : Nat} {e0 : Env} (h : i < e0.length) : compR (fun d e => some (e.set i (some d))) (fun _ => .ok true) (fun e => getV i e >>= fun a => ixG a (.int 0)) e0 (l.map encP) = .ok ((l.map fun p => [p.1]).map D.str) := by
  rw [comp_all (enc := encP) (fun p => D.str [p.1]) fun x _ => ⟨_, rfl, by rw [getV_set h]; exact ix_P0⟩, List.map_map]
  rfl
theorem Mk.next {many : Int} {k : Nat} {rs : List (List Pr)} {es : List Int} (m : Mk many k rs es) : Mk many (k + 1) rs es := ⟨m.len, fun ps h => ⟨by have := (m.tgt ps h).1; omega, (m.tgt ps h).2⟩, by have := m.end_.1; omega, m.end_.2⟩
theorem mem_set {α : Type} {xs : List α} {i : Nat} {a b : α} (h : b ∈ xs.set i a) : b ∈ xs ∨ b = a := List.mem_or_eq_of_mem_set h
theorem Mk.add {many : Int} {k j : Nat} {rs : List (List Pr)} {es : List Int} {l : List Pr} {x : Pr} (m : Mk many k rs es) (h : rs[j]? = some l) (hx : 0 ≤ x.2 ∧ x.2 < many) : Mk many (k + 1) (rs.set j (l ++ [x])) es := by
  have hl := m.tgt l (List.mem_of_getElem? h)
  refine ⟨by rw [List.length_set]; exact m.len, fun ps hp => ?_, by have := m.end_.1; omega, m.end_.2⟩
  rcases mem_set hp with hp | hp
  · exact ⟨by have := (m.tgt ps hp).1; omega, (m.tgt ps hp).2⟩
  · subst hp
    refine ⟨by rw [List.length_append, List.length_singleton]; omega, fun p hp => ?_⟩
    rcases List.mem_append.mp hp with hp | hp
    · exact hl.2 p hp
    · rw [List.mem_singleton.mp hp]; exact hx
theorem Mk.end' {many : Int} {k : Nat} {rs : List (List Pr)} {es : List Int} {r : Int} (m : Mk many (k + 1) rs es) (h : es.length ≤ k) (hr : 0 ≤ r ∧ r < many) : Mk many (k + 1) rs (es ++ [r]) :=
  ⟨m.len, m.tgt, by rw [List.length_append, List.length_singleton]; omega, fun x hx => by
    rcases List.mem_append.mp hx with hx | hx
    · exact m.end_.2 x hx
    · rw [List.mem_singleton.mp hx]; exact hr⟩
theorem Mk.wf {many : Int} {k : Nat} {rs rs' : List (List Pr)} {es es' : List Int} (m : Mk many k rs es) (hm : 0 < many) (hm2 : many ≤ 100) (hr : rs'.length = rs.length) (h : ∀ ps ∈ rs', ∃ qs ∈ rs, ps.Perm qs) (he : es'.Perm es) (hk : k ≤ 100000) : WF many rs' es' :=
  ⟨by rw [hr]; exact m.len, hm, hm2, fun ps hp p hpp => by
    obtain ⟨qs, hq, pm⟩ := h ps hp
    exact (m.tgt qs hq).2 p (pm.mem_iff.mp hpp), fun r hr => m.end_.2 r (he.mem_iff.mp hr), fun ps hp => by
    obtain ⟨qs, hq, pm⟩ := h ps hp
    rw [pm.length_eq]
    exact Nat.le_trans (m.tgt qs hq).1 hk⟩
theorem emod_in {a m : Int} (h : 0 < m) : 0 ≤ a % m ∧ a % m < m := ⟨Int.emod_nonneg _ (by omega), Int.emod_lt_of_pos _ h⟩
theorem getV_mk {l : List Int} : True := True.intro
theorem m_house {cells : List Int} {many first few : Int} (hm : 0 < many) (hm2 : many ≤ 100) (hf : 0 < few) (hf2 : few ≤ 94) (hc : cells.length ≤ 1000) :
    ∃ ds es, m__law_house [.lst (cells.map D.int), .int many, .int first, .int few] = .ok (encH ds es) ∧ WF many ds es := by
  suffices h : Ro (m__law_house [.lst (cells.map D.int), .int many, .int first, .int few]) (fun d => ∃ ds es, d = encH ds es ∧ WF many ds es) (fun _ => False) by
    obtain ⟨v, h1, ds, es, h2, h3⟩ := ex_of_ro h
    exact ⟨ds, es, by rw [h1, h2], h3⟩
  unfold m__law_house
  rw [mden_at (by rfl), ro_end]
  show So (den__law_house [some (.lst (cells.map D.int)), some (.int many), some (.int first), some (.int few), none, none, none, none, none, none, none, none, none, none]) _ _ _ _ _
  unfold den__law_house
  have hbig : (2000 : Nat) ≤ sizeLine := small_line (by decide)
  refine so_asg (d := .lst ((List.replicate many.toNat ([] : List Pr)).map encL)) ?_ ?_
  · simp only [getV_succ, getV_zero, ok_bind, range1_int (j := many) (by omega) (by omega)]
    rw [line_ok (by simp; omega), ok_bind, comp_all (enc := fun (i : Nat) => D.int i) (fun _ => encL []) (xs := List.range many.toNat) fun x _ => ⟨_, rfl, by simp [encL]⟩]
    simp [List.map_const']
  refine so_asg (d := .lst ([].map D.int)) (by simp) ?_
  refine so_seq (so_go (a := cells.map D.int) (by simp) ?_)
  refine so_forL (fun p env => ∃ rs es j5 j7 j8 j9 j10 j11 j12 j13, env = [some (.lst (cells.map D.int)), some (.int many), some (.int first), some (.int few), some (.lst (rs.map encL)), j5, some (.lst (es.map D.int)), j7, j8, j9, j10, j11, j12, j13] ∧ Mk many p.length rs es)
    ⟨List.replicate many.toNat [], [], none, none, none, none, none, none, none, none, rfl, by simp; omega, fun ps hp => by simp [List.eq_of_mem_replicate hp], by simp⟩ (fun p x q env e ⟨rs, es, j5, j7, j8, j9, j10, j11, j12, j13, ee, mk⟩ => ?_) (fun env ⟨rs, es, j5, j7, j8, j9, j10, j11, j12, j13, ee, mk⟩ => ?_)
  · subst ee
    have hp : p.length < 1000 := by
      have := congrArg List.length e
      rw [List.length_append, List.length_cons] at this
      omega
    have hr := emod_in (a := x) hm
    obtain ⟨l, hl1, hl2⟩ := at_in (xs := rs) hr.1 (by rw [mk.len]; exact hr.2)
    have hll := mk.tgt l (List.mem_of_getElem? hl2)
    have cm : ∀ z : Int, CDivW z many := fun z => cdiv hm (by omega)
    have cf : ∀ z : Int, CDivW z few := fun z => cdiv hf (by omega)
    have c3 : ∀ z : Int, CDivW z 3 := fun z => cdiv (by decide) (by decide)
    refine so_seq (so_next ?_)
    refine so_asg (by simp [mod_ok hm]; rfl) ?_
    refine so_asg (by simp [div_ok (cm _), mod_ok hf, m_sign]; rfl) ?_
    refine so_asg (by simp [div_ok (cm _), div_ok (cf _)]; rfl) ?_
    have hix : ixG (.lst (rs.map encL)) (.int (x % many)) = .ok (encL l) := ixl_ok (by simp [hl1])
    have hlt : x % many < ((rs.map encL).length : Nat) := by rw [List.length_map, mk.len]; exact hr.2
    have hin : innerL (rs.map encL) (.int (x % many)) = .ok ((x % many).toNat, rs.map encL, encL l) := innerL_ok (ixN_in hr.1 hlt) (by rw [List.getElem?_map, hl2]; rfl)
    have hls : l.length ≤ sizeLine := by omega
    have hls2 : l.length < sizeLine := by omega
    have hit : iterG (encL l) = .ok (l.map encP) := rfl
    have hlo : lstOf (encL l) = .ok (l.map encP) := rfl
    refine so_mid (fun env => ∃ rs' j11, env = [some (.lst (cells.map D.int)), some (.int many), some (.int first), some (.int few), some (.lst (rs'.map encL)), j5, some (.lst (es.map D.int)), some (.int x), some (.int (x % many)), some (.str [sg (first + x / many % few)]), some (.int (x / many / few)), j11, j12, j13] ∧ Mk many (p.length + 1) rs' es) ?_ ?_
    · refine so_test0 (b := !decide ([sg (first + x / many % few)] ∈ l.map fun p => [p.1])) ?_ (fun hb => ?_) (fun hb => ?_)
      · simp only [List.set, getV_succ, getV_zero, ok_bind, hix, hit, items_ok (flatL_encP (xs := l)), line_ok (show (l.map encP).length ≤ sizeLine by rw [List.length_map]; exact hls), wipeE]
        rw [signs_comp (by simp)]
        simp only [ok_bind, notIn_lst_str, asB_bl]
      · refine so_go (a := (((x % many).toNat, rs.map encL, encL l), .lst (l.map encP ++ [encP (sg (first + x / many % few), x / many / few % many)]))) ?_ (so_next ?_)
        · simp only [List.set, getV_succ, getV_zero, ok_bind, innerAt_succ, innerAt_zero, hin, hlo, mod_ok hm, tup2_ok]
          rw [flat_ok (by rfl)]
          simp only [ok_bind]
          rw [app_ok (by rw [List.length_map]; exact hls2)]
          rfl
        · refine ⟨rs.set (x % many).toNat (l ++ [(sg (first + x / many % few), x / many / few % many)]), j11, ?_, mk.add hl2 (emod_in hm)⟩
          simp [List.map_set, encL]
      · exact so_next ⟨rs, j11, by simp, mk.next⟩
    · rintro env ⟨rs', j11', ee, mk'⟩
      subst ee
      refine so_asg (by simp [div_ok (cm _), div_ok (c3 _), mod_ok hm]; rfl) ?_
      have hel := mk.end_.1
      refine so_test0 (b := decide (x / many / few / many % 3 = 0) && !decide (x / many / few / many / 3 % many ∈ es)) ?_ (fun hb => ?_) (fun hb => ?_)
      · simp [div_ok (cm _), mod_ok (show (0 : Int) < 3 by decide)]
        by_cases h3 : x / many / few / many % 3 = 0 <;> simp [h3]
      · refine so_go (a := (es ++ [x / many / few / many / 3 % many]).map D.int) ?_ (so_next ?_)
        · simp [flat_ok, app_ok (show (es.map D.int).length < sizeLine by rw [List.length_map]; omega)]
        · exact ⟨rs', es ++ [x / many / few / many / 3 % many], j5, _, _, _, _, _, _, _, by simp; exact ⟨rfl, rfl, rfl, rfl, rfl, rfl, rfl⟩, by rw [List.length_append, List.length_singleton]; exact mk'.end' hel (emod_in hm)⟩
      · exact so_next ⟨rs', es, j5, _, _, _, _, _, _, _, by simp; exact ⟨rfl, rfl, rfl, rfl, rfl, rfl, rfl⟩, by rw [List.length_append, List.length_singleton]; exact mk'⟩
  · subst ee
    have hrl : rs.length ≤ 100 := by have := mk.len; omega
    refine so_ret (d := encH (rs.map srt) (srtI es)) ?_ ⟨_, _, rfl, mk.wf hm hm2 (by simp) (fun ps hp => ?_) (srtI_perm es) (by omega)⟩
    · have e1 : compR (fun d e => some (List.set e 13 (some d))) (fun _ => R.ok true) (fun e => getV 13 e >>= sortG >>= tupleO) (wipeE [some (.lst (cells.map D.int)), some (.int many), some (.int first), some (.int few), some (.lst (rs.map encL)), j5, some (.lst (es.map D.int)), j7, j8, j9, j10, j11, j12, j13] [13]) (rs.map encL) = .ok (rs.map fun l => encR (srt l)) :=
        comp_all (enc := encL) (fun l => encR (srt l)) fun x _ => ⟨_, rfl, by
          simp only [wipeE, List.set, getV_succ, getV_zero, ok_bind]
          unfold encL
          rw [sort_srt, ok_bind, tupO_ok flatL_encP]
          rfl⟩
      simp only [getV_succ, getV_zero, ok_bind, iter_lst, line_ok (show (rs.map encL).length ≤ sizeLine by rw [List.length_map]; omega), e1]
      rw [tupO_ok (flatL_map fun _ _ => flat_encR)]
      simp only [ok_bind, sort_srtI]
      rw [tupO_ok flatL_ints]
      simp only [ok_bind, tup2_ok]
      unfold encH
      rw [List.map_map]
      rfl
    · obtain ⟨l, hl, rfl⟩ := List.mem_map.mp hp
      exact ⟨l, hl, srt_perm l⟩
end Pu.k29

namespace Pu.k29
open PySem PySem.Spec PyProof.Rows L2 Pu
def encT (t : List Pr) : D := .dic 0 (t.map fun p => .str [p.1]) (t.map fun p => .int p.2)
theorem notIn_T {c : Nat} {t : List Pr} : notInG (.str [c]) (encT t) = .ok (.bl (!decide (D.str [c] ∈ t.map fun p => D.str [p.1]))) := notIn_dic rfl
theorem put_T {c : Nat} {v : Int} {t : List Pr} (h : D.str [c] ∉ t.map fun p => D.str [p.1]) (hl : t.length < sizeLine) : putG (encT t) (.str [c]) (.int v) = .ok (encT (t ++ [(c, v)])) := by
  unfold encT
  rw [putd_ok rfl (by rw [List.length_map]; exact hl), dputK_new h, dputV_new (by simp) h]
  simp
theorem zip_T : ∀ t : List Pr, List.zipWith tup2 (t.map fun p => D.str [p.1]) (t.map fun p => D.int p.2) = t.map encP
  | [] => rfl
  | p :: t => by
    rw [List.map_cons, List.map_cons, List.map_cons, List.zipWith_cons_cons, zip_T t]; rfl
theorem sortI_T {t : List Pr} : sortIG (encT t) = .ok (.lst ((srt t).map encP)) := by
  show ifR (sortOk (List.zipWith tup2 _ _)) (.ok (.lst (sortD (List.zipWith tup2 _ _)))) = _
  rw [zip_T, ifR_pos (sortOk_map (fun _ => rfl) (fun _ => rfl) (fun _ _ => rfl) (.inl fun _ => rfl)), sort_map]; rfl
theorem Mk.more {many : Int} {k k' : Nat} {rs : List (List Pr)} {es : List Int} (m : Mk many k rs es) (h : k ≤ k') : Mk many k' rs es :=
  ⟨m.len, fun ps h => ⟨by have := (m.tgt ps h).1; omega, (m.tgt ps h).2⟩, by have := m.end_.1; omega, m.end_.2⟩
theorem exI (a : Int) : ∃ v : Int, v = a := ⟨a, rfl⟩
noncomputable def runsB : D → Env → SR := (fun d e => (optS (some (e.set 10 (some d)))).then fun e => (((liftR e (((((getV 7 e) >>= fun a => (getV 10 e) >>= fun b => addG a b) >>= fun d => (.ok []) >>= fun ds => .ok (d :: ds)) >>= m__law_sign)) fun d => optS (some (e.set 11 (some d))))).then fun e => (liftR e ((((getV 11 e) >>= fun a => ((getV 2 e) >>= fun a => (getV 6 e) >>= fun b => ixG a b) >>= fun b => notInG a b) >>= asB)) fun b => if b = true then (liftR e ((((getV 8 e) >>= fun a => ((getV 10 e) >>= fun a => (getV 9 e) >>= fun b => mulI a b) >>= fun b => addG a b) >>= fun a => (getV 1 e) >>= fun b => modI a b) >>= fun v => getV 2 e >>= fun _ => (getV 6 e) >>= fun j => innerAt 2 j e >>= fun p => (getV 11 e) >>= fun k => putG p.2.2 k v >>= fun c => .ok (p, c)) fun q => .nx (setIn 2 q.1 q.2 e)) else (.nx e))))
noncomputable def runsO : D → Env → SR := (fun d e => (optS (some (e.set 5 (some d)))).then fun e => (((liftR e (((getV 5 e) >>= fun a => (getV 1 e) >>= fun b => modI a b)) fun d => optS (some (e.set 6 (some d))))).then fun e => (((liftR e ((((getV 5 e) >>= fun a => (getV 1 e) >>= fun b => divI a b) >>= fun a => (.ok (.int 94)) >>= fun b => divI a b)) fun d => optS (some (e.set 7 (some d))))).then fun e => (((liftR e (((getV 7 e) >>= fun a => (.ok (.int 94)) >>= fun b => divI a b)) fun d => optS (some (e.set 8 (some d))))).then fun e => (((liftR e (((getV 8 e) >>= fun a => (getV 1 e) >>= fun b => divI a b)) fun d => optS (some (e.set 9 (some d))))).then fun e => (((liftR e (((((.ok (.int 1)) >>= fun a => (((getV 5 e) >>= fun a => (getV 1 e) >>= fun b => divI a b) >>= fun a => (.ok (.int 94)) >>= fun b => modI a b) >>= fun b => addG a b) >>= fun d => (.ok []) >>= fun ds => .ok (d :: ds)) >>= range1)) fun ds => forL runsB ds e)).then fun e => (((liftR e (((getV 9 e) >>= fun a => (getV 1 e) >>= fun b => divI a b)) fun d => optS (some (e.set 12 (some d))))).then fun e => (liftR e ((((((getV 12 e) >>= fun a => (.ok (.int 5)) >>= fun b => modI a b) >>= fun a => (.ok (.int 0)) >>= fun b => eqG a b) >>= asB) >>= fun b => if b = true then (((((getV 12 e) >>= fun a => (.ok (.int 5)) >>= fun b => divI a b) >>= fun a => (getV 1 e) >>= fun b => modI a b) >>= fun a => (getV 4 e) >>= fun b => notInG a b) >>= asB) else .ok false)) fun b => if b = true then (liftR e (lstAt 4 e >>= fun ds => ((((getV 12 e) >>= fun a => (.ok (.int 5)) >>= fun b => divI a b) >>= fun a => (getV 1 e) >>= fun b => modI a b) >>= fun d => (.ok []) >>= fun ds => .ok (d :: ds)) >>= fun as => appG ds as) fun ds' => .nx (setL 4 ds' e)) else (.nx e)))))))))
def rEnv (cells : List Int) (many : Int) (rs : List (List Pr)) (j3 : Option D) (es : List Int) (j5 j6 j7 j8 j9 j10 j11 j12 j13 : Option D) : Env :=
  [some (.lst (cells.map D.int)), some (.int many), some (.lst (rs.map encT)), j3, some (.lst (es.map D.int)), j5, j6, j7, j8, j9, j10, j11, j12, j13]
theorem bindOk {α β : Type} {q : R α} {g : α → R β} {a : α} {r : R β} (h : q = .ok a) (k : g a = r) : (q >>= g) = r := by rw [h, ok_bind]; exact k
theorem runs_in {cells es : List Int} {many x h n f s c : Int} {b : Nat} {rs : List (List Pr)} {j3 j10 j11 j12 j13 : Option D} {env : Env} (hm : 0 < many) (hm2 : many ≤ 100) (hbig : 100000 ≤ sizeLine) (hb0 : b ≤ 99000)
    (hr : 0 ≤ h ∧ h < many) (hn : 0 ≤ c ∧ c < 94) (he : env = [some (.lst (cells.map D.int)), some (.int many), some (.lst (rs.map encT)), j3, some (.lst (es.map D.int)), some (.int x), some (.int h), some (.int n), some (.int f), some (.int s), j10, j11, j12, j13]) (mk : Mk many b rs es) :
    So (forL runsB ((List.range (1 + c).toNat).map fun (i : Nat) => D.int i) env) (fun env => ∃ rs' j10 j11, env = [some (.lst (cells.map D.int)), some (.int many), some (.lst (rs'.map encT)), j3, some (.lst (es.map D.int)), some (.int x), some (.int h), some (.int n), some (.int f), some (.int s), j10, j11, j12, j13] ∧ Mk many (b + 94) rs' es) rt bk ct ex := by
  subst he
  refine so_forL (fun r env => ∃ rs' j10 j11, env = [some (.lst (cells.map D.int)), some (.int many), some (.lst (rs'.map encT)), j3, some (.lst (es.map D.int)), some (.int x), some (.int (h)), some (.int (n)), some (.int (f)), some (.int (s)), j10, j11, j12, j13] ∧ Mk many (b + r.length) rs' es)
    ⟨rs, j10, j11, rfl, mk⟩ (fun r j t env e2 ⟨rs', j10, j11, ee, mk'⟩ => ?_) (fun env ⟨rs', j10, j11, ee, mk'⟩ => ?_)
  · subst ee
    have hj : j < 94 := by
      have : j ∈ List.range (1 + c).toNat := by rw [e2]; simp
      have := List.mem_range.mp this
      omega
    have hrl : r.length < 94 := by
      have := congrArg List.length e2
      rw [List.length_append, List.length_cons, List.length_range] at this
      omega
    obtain ⟨l, hl1, hl2⟩ := at_in (xs := rs') hr.1 (by rw [mk'.len]; exact hr.2)
    have hll := mk'.tgt l (List.mem_of_getElem? hl2)
    have hix : ixG (.lst (rs'.map encT)) (.int (h)) = .ok (encT l) := ixl_ok (by simp [hl1])
    have hlt : h < ((rs'.map encT).length : Nat) := by rw [List.length_map, mk'.len]; exact hr.2
    have hin : innerL (rs'.map encT) (.int (h)) = .ok ((h).toNat, rs'.map encT, encT l) := innerL_ok (ixN_in hr.1 hlt) (by rw [List.getElem?_map, hl2]; rfl)
    obtain ⟨v, hv⟩ := exI ((f + (j : Int) * (s)) % many)
    have hvin : 0 ≤ v ∧ v < many := by rw [hv]; exact emod_in hm
    have hmod : modI (.int (f + (j : Int) * (s))) (.int many) = .ok (.int v) := by rw [mod_ok hm, hv]
    have hmul : mulI (.int (j : Nat)) (.int (s)) = .ok (.int (j * (s))) := mul_ok (cmul (by omega) (by omega))
    refine so_seq (so_next ?_)
    refine so_asg (by simp [m_sign]; rfl) ?_
    refine so_test0 (b := !decide (D.str [sg (n + j)] ∈ l.map fun p => D.str [p.1])) ?_ (fun hb => ?_) (fun hb => ?_)
    · simp only [List.set, getV_succ, getV_zero, ok_bind, hix, notIn_T, asB_bl]
    · have hni : D.str [sg (n + j)] ∉ l.map fun p => D.str [p.1] := by simpa using hb
      have hl3 : l.length < sizeLine := by omega
      refine so_go (a := (((h).toNat, rs'.map encT, encT l), encT (l ++ [(sg (n + j), v)]))) ?_ ?_
      · refine bindOk (a := .int v) (bindOk (a := .int (f + j * s)) (bindOk (a := .int f) rfl (bindOk (a := .int (j * s)) (bindOk (a := .int (j : Nat)) rfl (bindOk (a := .int s) rfl (by exact hmul))) addG_int)) (bindOk (a := .int many) rfl (by exact hmod))) ?_
        refine bindOk (a := .lst (rs'.map encT)) rfl (bindOk (a := .int h) rfl (bindOk (a := (h.toNat, rs'.map encT, encT l)) ?_ (bindOk (a := .str [sg (n + j)]) rfl ?_)))
        · rw [← hin]; rfl
        · show (putG (encT l) (.str [sg (n + j)]) (.int v) >>= fun c => R.ok ((h.toNat, rs'.map encT, encT l), c)) = _
          rw [put_T hni hl3]; rfl
      · show ∃ rs' j10 j11, _ ∧ _
        refine ⟨rs'.set (h).toNat (l ++ [(sg (n + j), v)]), some (.int (j : Nat)), some (.str [sg (n + j)]), ?_, ?_⟩
        · simp [List.map_set]
        · rw [List.length_append, List.length_singleton]
          exact mk'.add hl2 hvin
    · refine so_next ⟨rs', some (.int (j : Nat)), some (.str [sg (n + j)]), ?_, ?_⟩
      · simp
      · rw [List.length_append, List.length_singleton]
        exact mk'.more (by omega)
  · subst ee
    exact ⟨rs', j10, j11, rfl, mk'.more (by rw [List.length_range]; omega)⟩
theorem runs_out {cells es p : List Int} {many x : Int} {rs : List (List Pr)} {j3 j5 j6 j7 j8 j9 j10 j11 j12 j13 : Option D} {env : Env} (hm : 0 < many) (hm2 : many ≤ 100) (hbig : 100000 ≤ sizeLine) (hp : p.length < 1000)
    (he : env = [some (.lst (cells.map D.int)), some (.int many), some (.lst (rs.map encT)), j3, some (.lst (es.map D.int)), j5, j6, j7, j8, j9, j10, j11, j12, j13]) (mk : Mk many (95 * p.length) rs es) :
    So (runsO (.int x) env) (fun env => ∃ rs es j3 j5 j6 j7 j8 j9 j10 j11 j12 j13, env = [some (.lst (cells.map D.int)), some (.int many), some (.lst (rs.map encT)), j3, some (.lst (es.map D.int)), j5, j6, j7, j8, j9, j10, j11, j12, j13] ∧ Mk many (95 * (p ++ [x]).length) rs es) rt bk (fun env => ∃ rs es j3 j5 j6 j7 j8 j9 j10 j11 j12 j13, env = [some (.lst (cells.map D.int)), some (.int many), some (.lst (rs.map encT)), j3, some (.lst (es.map D.int)), j5, j6, j7, j8, j9, j10, j11, j12, j13] ∧ Mk many (95 * (p ++ [x]).length) rs es) ex := by
  subst he
  unfold runsO
  have cm : ∀ z : Int, CDivW z many := fun z => cdiv hm (by omega)
  have c94 : ∀ z : Int, CDivW z 94 := fun z => cdiv (by decide) (by decide)
  have c5 : ∀ z : Int, CDivW z 5 := fun z => cdiv (by decide) (by decide)
  have hr := emod_in (a := x) hm
  have hn := emod_in (a := x / many) (show (0 : Int) < 94 by decide)
  refine so_seq (so_next ?_)
  refine so_asg (by simp [mod_ok hm]; rfl) ?_
  refine so_asg (by simp [div_ok (cm _), div_ok (c94 _)]; rfl) ?_
  refine so_asg (by simp [div_ok (c94 _)]; rfl) ?_
  refine so_asg (by simp [div_ok (cm _)]; rfl) ?_
  refine so_mid (fun env => ∃ rs' j10 j11, env = [some (.lst (cells.map D.int)), some (.int many), some (.lst (rs'.map encT)), j3, some (.lst (es.map D.int)), some (.int x), some (.int (x % many)), some (.int (x / many / 94)), some (.int (x / many / 94 / 94)), some (.int (x / many / 94 / 94 / many)), j10, j11, j12, j13] ∧ Mk many (95 * p.length + 94) rs' es) ?_ ?_
  · refine so_go (a := (List.range (1 + x / many % 94).toNat).map fun (i : Nat) => D.int i) ?_ ?_
    · simp only [List.set, getV_succ, getV_zero, ok_bind, div_ok (cm _), mod_ok (show (0 : Int) < 94 by decide), addG_int]
      rw [range1_int (by omega) (by omega)]
    · exact runs_in hm hm2 hbig (by omega) hr hn rfl mk
  · rintro env ⟨rs', j10', j11', ee, mk'⟩
    subst ee
    refine so_asg (by simp [div_ok (cm _)]; rfl) ?_
    have hel := mk.end_.1
    refine so_test0 (b := decide (x / many / 94 / 94 / many / many % 5 = 0) && !decide (x / many / 94 / 94 / many / many / 5 % many ∈ es)) ?_ (fun hb => ?_) (fun hb => ?_)
    · simp [mod_ok (show (0 : Int) < 5 by decide), div_ok (c5 _), mod_ok hm]
      by_cases h3 : x / many / 94 / 94 / many / many % 5 = 0 <;> simp [h3]
    · refine so_go (a := (es ++ [x / many / 94 / 94 / many / many / 5 % many]).map D.int) ?_ (so_next ?_)
      · simp [div_ok (c5 _), mod_ok hm, app_ok (show (es.map D.int).length < sizeLine by rw [List.length_map]; omega)]
      · refine ⟨rs', es ++ [x / many / 94 / 94 / many / many / 5 % many], j3, some (.int x), some (.int (x % many)), some (.int (x / many / 94)), some (.int (x / many / 94 / 94)), some (.int (x / many / 94 / 94 / many)), j10', j11', some (.int (x / many / 94 / 94 / many / many)), j13, ?_, ?_⟩
        · simp
        · rw [List.length_append, List.length_singleton]
          exact (mk'.more (k' := 95 * p.length + 94 + 1) (by omega)).end' (by omega) (emod_in hm)
    · refine so_next ⟨rs', es, j3, some (.int x), some (.int (x % many)), some (.int (x / many / 94)), some (.int (x / many / 94 / 94)), some (.int (x / many / 94 / 94 / many)), j10', j11', some (.int (x / many / 94 / 94 / many / many)), j13, ?_, ?_⟩
      · simp
      · rw [List.length_append, List.length_singleton]
        exact mk'.more (by omega)
theorem m_runs {cells : List Int} {many : Int} (hm : 0 < many) (hm2 : many ≤ 100) (hc : cells.length ≤ 1000) :
    ∃ ds es, m__law_runs [.lst (cells.map D.int), .int many] = .ok (encH ds es) ∧ WF many ds es := by
  suffices h : Ro (m__law_runs [.lst (cells.map D.int), .int many]) (fun d => ∃ ds es, d = encH ds es ∧ WF many ds es) (fun _ => False) by
    obtain ⟨v, h1, ds, es, h2, h3⟩ := ex_of_ro h
    exact ⟨ds, es, by rw [h1, h2], h3⟩
  unfold m__law_runs
  rw [mden_at (by rfl), ro_end]
  show So (den__law_runs [some (.lst (cells.map D.int)), some (.int many), none, none, none, none, none, none, none, none, none, none, none, none]) _ _ _ _ _
  unfold den__law_runs
  have hbig : (100000 : Nat) ≤ sizeLine := small_line (by decide)
  refine so_asg (d := .lst ((List.replicate many.toNat ([] : List Pr)).map encT)) ?_ ?_
  · simp only [getV_succ, getV_zero, ok_bind, range1_int (j := many) (by omega) (by omega)]
    rw [line_ok (by simp; omega), ok_bind, comp_all (enc := fun (i : Nat) => D.int i) (fun _ => encT []) (xs := List.range many.toNat) fun x _ => ⟨_, rfl, by simp [encT]⟩]
    simp [List.map_const']
  refine so_asg (d := .lst ([].map D.int)) (by simp) ?_
  refine so_seq (so_go (a := cells.map D.int) (by simp) ?_)
  refine so_forL (fun p env => ∃ rs es j3 j5 j6 j7 j8 j9 j10 j11 j12 j13, env = [some (.lst (cells.map D.int)), some (.int many), some (.lst (rs.map encT)), j3, some (.lst (es.map D.int)), j5, j6, j7, j8, j9, j10, j11, j12, j13] ∧ Mk many (95 * p.length) rs es)
    ⟨List.replicate many.toNat [], [], none, none, none, none, none, none, none, none, none, none, rfl, by simp; omega, fun ps hp => by simp [List.eq_of_mem_replicate hp], by simp⟩ (fun p x q env e ⟨rs, es, j3, j5, j6, j7, j8, j9, j10, j11, j12, j13, ee, mk⟩ => ?_) (fun env ⟨rs, es, j3, j5, j6, j7, j8, j9, j10, j11, j12, j13, ee, mk⟩ => ?_)
  · subst ee
    have hp : p.length < 1000 := by
      have := congrArg List.length e
      rw [List.length_append, List.length_cons] at this
      omega
    exact runs_out hm hm2 hbig hp rfl mk
  · subst ee
    have hrl : rs.length ≤ 100 := by have := mk.len; omega
    refine so_ret (d := encH (rs.map srt) (srtI es)) ?_ ⟨_, _, rfl, mk.wf hm hm2 (by simp) (fun ps hp => ?_) (srtI_perm es) (by omega)⟩
    · have e1 : ∀ e0 : Env, 13 < e0.length → compR (fun d e => some (List.set e 13 (some d))) (fun _ => R.ok true) (fun e => getV 13 e >>= sortIG >>= tupleO) e0 (rs.map encT) = .ok (rs.map fun l => encR (srt l)) := fun e0 h0 =>
        comp_all (enc := encT) (fun l => encR (srt l)) fun x _ => ⟨_, rfl, by
          rw [getV_set h0, ok_bind, sortI_T, ok_bind, tupO_ok flatL_encP]
          rfl⟩
      simp only [getV_succ, getV_zero, ok_bind, iter_lst, line_ok (show (rs.map encT).length ≤ sizeLine by rw [List.length_map]; omega)]
      have e2 : tupleO (.lst (rs.map fun l => encR (srt l))) = .ok (.tup (rs.map fun l => encR (srt l))) := tupO_ok (flatL_map fun _ _ => flat_encR)
      rw [e1 _ (by simp [wipeE]), ok_bind]
      simp only [ok_bind, e2]
      simp only [ok_bind, sort_srtI]
      rw [tupO_ok flatL_ints]
      simp only [ok_bind, tup2_ok]
      unfold encH
      rw [List.map_map]
      rfl
    · obtain ⟨l, hl, rfl⟩ := List.mem_map.mp hp
      exact ⟨l, hl, srt_perm l⟩
end Pu.k29

namespace Pu.k29
open PySem PySem.Spec PyProof.Rows L2 Pu
section
variable {many : Int} {ds : List (List Pr)} {es : List Int} {f : Nat → Option Int}
theorem m_ldoor {o : Option Int} {c : Nat} (ho : ∀ r, o = some r → ∃ ps, atI ds r = some ps) : m__law_door [encH ds es, encO o, .str [c]] = .ok (encO (o.bind fun r => (atI ds r).bind fun ps => doorTo ps c)) := by
  apply eq_of_ro
  unfold m__law_door
  rw [mden_at (by rfl)]
  unfold den__law_door
  cases o with
  | none => simp [List.replicate]
  | some r =>
    obtain ⟨ps, h⟩ := ho r rfl
    simp [List.replicate, ix_H0, h, encR]
    refine so_forL (fun p env => (∀ y ∈ p, y.1 ≠ c) ∧ ∃ j2, env = [some (encH ds es), some (.int r), some (.str [c]), j2]) ⟨by simp, none, rfl⟩ (fun p x q env e ⟨hp, j2, ee⟩ => ?_) (fun env ⟨hp, j2, ee⟩ => ?_)
    · subst ee
      simp only [encP]
      simp [-List.mem_append]
      refine ⟨fun hx => ?_, fun hx => ?_⟩
      · rw [e, find_snoc hp hx]; rfl
      · exact fun a b m => snoc_ne hp hx (a, b) m
    · rw [doorTo_none hp]; rfl
theorem m_lfirst (w : WF many ds es) {r v : Int} {ps : List Pr} {x : Pr} (hr : 0 ≤ r ∧ r < many) (h : atI ds r = some ps) (hv : f r.toNat = some v) (hx : firstAt f ps v = some x) :
    m__law_first [encH ds es, .int r, tab ds.length f] = .ok (encP x) := by
  apply eq_of_ro
  unfold m__law_first
  rw [mden_at (by rfl)]
  unfold den__law_first
  have hl := w.len
  simp [List.replicate, ix_H0, h, encR]
  refine so_forL (fun p env => (∀ y ∈ p, ¬ f y.2.toNat = some (v - 1)) ∧ ∃ j2, env = [some (encH ds es), some (.int r), some (tab ds.length f), j2]) ⟨by simp, none, rfl⟩ (fun p y q env e ⟨hp, j2, ee⟩ => ?_) (fun env ⟨hp, j2, ee⟩ => ?_)
  · subst ee
    have hy := w.in' h y (by rw [e]; simp)
    have key : f y.2.toNat = some (v - 1) → x = y := fun hd => by rw [e, first_snoc hp hd] at hx; exact (Option.some.inj hx).symm
    simp only [encP]
    cases hf : f y.2.toNat with
    | none =>
      simp [-List.mem_append, ix_tab (n := ds.length) hy.1 hy.2, hf]
      exact fun a b m => snoc_no hp (by rw [hf]; simp) (a, b) m
    | some u =>
      simp [-List.mem_append, ix_tab (n := ds.length) hy.1 hy.2, ix_tab (n := ds.length) (f := f) hr.1 (by omega), hf, hv]
      refine ⟨fun hd => ?_, fun hd a b m => snoc_no hp (by rw [hf]; intro z; exact hd (by have := Option.some.inj z; omega)) (a, b) m⟩
      rw [key (by rw [hf]; congr 1; omega)]; simp
  · rw [first_none hp] at hx; cases hx
theorem way_len' (w : WF many ds es) (g : Good ds.length (nbs ds) (ens es) f) : ∀ {v : Nat} {r : Int}, (0 ≤ r ∧ r < many) → f r.toNat = some (v : Int) → (way ds f v r).1.length = v
  | 0, r, _, _ => rfl
  | v + 1, r, hr, hv => by
    obtain ⟨ps, x, a1, a2, a3, a4, a5, a6⟩ := good_first w g hr hv
    have := way_len' w g a5 a6
    simp only [way, a2, a3]
    simp [this]
end
end Pu.k29

namespace Pu.k29
open PySem PySem.Spec PyProof.Rows L2 Pu
section
variable {many : Int} {ds : List (List Pr)} {es : List Int} {f : Nat → Option Int}
/-- what tail answers, told -/
def told (ds : List (List Pr)) (f : Nat → Option Int) : Option Int → D
  | none => .non
  | some r => match f r.toNat with
    | none => .non
    | some v => .str (way ds f v.toNat r).1
theorem m_ltail (w : WF many ds es) (g : Good ds.length (nbs ds) (ens es) f) (small : ∀ i v, i < ds.length → f i = some v → v ≤ 1000) {o : Option Int} (ho : ∀ r, o = some r → 0 ≤ r ∧ r < many) :
    m__law_tail [encH ds es, encO o, tab ds.length f, told ds f o] = .ok (.bl true) := by
  have hl := w.len
  apply eq_of_ro
  unfold m__law_tail
  rw [mden_at (by rfl)]
  unfold den__law_tail
  cases o with
  | none => simp [List.replicate, told]
  | some r =>
    have hr := ho r rfl
    have ix : ∀ {r : Int}, 0 ≤ r ∧ r < many → ixG (tab ds.length f) (.int r) = .ok (encO (f r.toNat)) := fun {r} h => by
      apply eq_of_ro
      rw [ix_tab h.1 (by omega)]
    cases hv : f r.toNat with
    | none => simp [List.replicate, told, hv, ix hr]
    | some v =>
      have v0 : 0 ≤ v := ((g r.toNat (by omega)).2.1 v hv).1
      have hlen := way_len' w g (v := v.toNat) hr (by rw [hv]; congr 1; omega)
      have hsm := small r.toNat v (by omega) hv
      have hline : (way ds f v.toNat r).1.length ≤ sizeLine := small_line (by omega)
      have hlen2 : ((way ds f v.toNat r).1.length : Int) = v := by omega
      have hle : lenG (.str (way ds f v.toNat r).1) = .ok (.int v) := by
        show (if _ then R.ok (D.int _) else _) = _
        rw [if_pos hline, hlen2]
      simp [List.replicate, told, hv, ix hr, show ∀ t, isTy "str" (.str t) = .ok (.bl true) from fun _ => rfl, hline, hle]
      refine so_forL (fun p env => ∃ (r' : Int) (v' : Nat) (j4 j5 : Option D), env = [some (encH ds es), some (.int r'), some (tab ds.length f), some (.str (way ds f v.toNat r).1), j4, j5] ∧ (0 ≤ r' ∧ r' < many) ∧ f r'.toNat = some (v' : Int) ∧ p ++ (way ds f v' r').1 = (way ds f v.toNat r).1)
        ⟨r, v.toNat, none, none, rfl, hr, by rw [hv]; congr 1; omega, rfl⟩ (fun p c q env e ⟨r', v', j4, j5, ee, hr', hv', hw⟩ => ?_) (fun env ⟨r', v', j4, j5, ee, hr', hv', hw⟩ => ?_)
      · subst ee
        rw [e] at hw
        have hw := List.append_cancel_left hw
        cases v' with
        | zero => exact absurd hw (by simp [way])
        | succ k =>
          obtain ⟨ps, x, a1, a2, a3, a4, a5, a6⟩ := good_first w g hr' hv'
          simp only [way, a2, a3] at hw
          obtain ⟨h1, h2⟩ := List.cons.inj hw
          simp only [m_lfirst w hr' a1 hv' a3, List.set, getV_succ, getV_zero, ok_bind]
          simp [m_lfirst w hr' a1 hv' a3, encP, h1]
          refine ⟨a5, k, a6, ?_⟩
          rw [h2]; exact e.symm
      · subst ee
        have hz : (way ds f v' r').1 = [] := List.append_right_eq_self.mp hw
        have h0 := way_len' w g hr' hv'
        rw [hz] at h0
        have h0 : v' = 0 := h0.symm
        subst h0
        have hen : (r'.toNat : Int) ∈ es := ((g r'.toNat (by omega)).2.1 0 hv').2.1 rfl
        rw [show (r'.toNat : Int) = r' by omega] at hen
        simp [ix_H1, hen]
end
end Pu.k29

namespace Pu.k29
open PySem PySem.Spec PyProof.Rows L2 Pu
section
variable {many : Int} {ds : List (List Pr)} {es : List Int} {f : Nat → Option Int}
theorem ints_ok : ∀ (xs : List Int), intsOf (xs.map D.int) = some xs
  | [] => rfl
  | x :: xs => by
    show (intsOf (xs.map D.int)).map (x :: ·) = _
    rw [ints_ok xs]; rfl
theorem min_ok {xs : List Int} {m : Int} (h : minL xs = some m) : minG (.lst (xs.map D.int)) = .ok (.int m) := by
  show (match intsOf (xs.map D.int) with | some ns => optI (minL ns) | none => .bad) = _
  rw [ints_ok]
  show optI (minL xs) = _
  rw [h]; rfl
theorem pyOkL_ints : ∀ (n : Nat) (xs : List Int), pyOkL n (xs.map D.int) = true
  | _, [] => rfl
  | n, x :: xs => by
    show (pyOk n (.int x) && pyOkL n (xs.map D.int)) = true
    rw [pyOkL_ints n xs, Bool.and_true]
    unfold pyOk; rfl
theorem neNil {xs : List Int} : neG (.lst (xs.map D.int)) (.lst []) = .ok (.bl (!decide (xs = []))) := by
  unfold neG ifR
  rw [if_pos (show (pyOk 30 (.lst (xs.map D.int)) && pyOk 30 (.lst [])) = true from by
    show (pyOkL 29 (xs.map D.int) && true) = true
    rw [pyOkL_ints]; rfl)]
  cases xs with
  | nil => rfl
  | cons x xs => simp; rfl
theorem neO {a b : Option Int} : neG (encO a) (encO b) = .ok (.bl (!decide (a = b))) := by
  cases a <;> cases b <;> simp
def vals (f : Nat → Option Int) (ps : List Pr) : List Int := ps.filterMap fun p => f p.2.toNat
theorem vals_eq {ps : List Pr} : (ps.filter fun p => !decide (encO (f p.2.toNat) = .non)).map (fun p => encO (f p.2.toNat)) = (vals f ps).map D.int := by
  induction ps with
  | nil => rfl
  | cons p ps ih =>
    unfold vals at *
    rw [List.filter_cons, List.filterMap_cons]
    cases h : f p.2.toNat with
    | none => simpa [h] using ih
    | some v => simpa [h] using ih
def due (f : Nat → Option Int) (es : List Int) (ps : List Pr) (i : Nat) : Option Int := if (i : Int) ∈ es then some 0 else (minL (vals f ps)).map (1 + ·)
theorem good_due (g : Good ds.length (nbs ds) (ens es) f) {i : Nat} {ps : List Pr} (hi : i < ds.length) (hd : ds.getD i [] = ps) : f i = due f es ps i := by
  obtain ⟨a, b, c⟩ := g i hi
  unfold due
  by_cases he : (i : Int) ∈ es
  · rw [if_pos he]; exact a he
  · rw [if_neg he]
    have nb : ∀ p, p ∈ nbs ds i ↔ ∃ z ∈ ps, z.2.toNat = p := by
      intro p; unfold nbs; rw [hd, List.mem_map]
    have mv : ∀ u, u ∈ vals f ps ↔ ∃ z ∈ ps, f z.2.toNat = some u := by
      intro u; unfold vals; rw [List.mem_filterMap]
    cases hf : f i with
    | none =>
      have : vals f ps = [] := by
        apply List.eq_nil_iff_forall_not_mem.mpr
        intro u hu
        obtain ⟨z, hz, hz2⟩ := (mv u).mp hu
        have := c hf _ ((nb _).mpr ⟨z, hz, rfl⟩)
        rw [this] at hz2; cases hz2
      rw [this]; rfl
    | some v =>
      obtain ⟨b1, b2, b3⟩ := b v hf
      have v1 : 0 < v := by
        rcases Int.lt_or_eq_of_le b1 with h | h
        · exact h
        · exact absurd (b2 h.symm) he
      obtain ⟨_, ⟨p, hp, hp2⟩, b5⟩ := b3 v1
      obtain ⟨z, hz, rfl⟩ := (nb p).mp hp
      have hm : v - 1 ∈ vals f ps := (mv _).mpr ⟨z, hz, hp2⟩
      cases hmn : minL (vals f ps) with
      | none => rw [minL_none hmn] at hm; cases hm
      | some m =>
        obtain ⟨m1, m2⟩ := minL_is hmn
        obtain ⟨y, hy, hy2⟩ := (mv m).mp m1
        have := b5 _ ((nb _).mpr ⟨y, hy, rfl⟩) m hy2
        have := m2 _ hm
        show some v = some (1 + m)
        congr 1; omega
theorem m_wholeO {o : Option Int} : (encO o = .non ∨ m__law_whole [encO o] = .ok (.bl true)) := by
  cases o with
  | none => exact .inl rfl
  | some i => exact .inr m_whole
end
end Pu.k29

namespace Pu.k29
open PySem PySem.Spec PyProof.Rows L2 Pu
section
variable {many : Int} {ds : List (List Pr)} {es : List Int} {f : Nat → Option Int}
theorem tab_ix (f : Nat → Option Int) {n : Nat} {r : Int} (h0 : 0 ≤ r) (h : r < n) : ixG (tab n f) (.int r) = .ok (encO (f r.toNat)) := by
  apply eq_of_ro
  rw [ix_tab h0 h]
theorem neNilV {f : Nat → Option Int} {ps : List Pr} : neG (.lst ((vals f ps).map D.int)) (.lst []) = .ok (.bl (!decide (vals f ps = []))) := neNil
def dEnv (ds : List (List Pr)) (es : List Int) (f : Nat → Option Int) (j2 j3 j4 j5 j6 : Option D) : Env := [some (encH ds es), some (tab ds.length f), j2, j3, j4, j5, j6]
noncomputable def deepB : D → Env → SR := (fun d e => (optS (some (e.set 3 (some d)))).then fun e => (((liftR e ((((((getV 0 e) >>= fun a => (.ok (.int 0)) >>= fun b => ixG a b) >>= fun a => (getV 3 e) >>= fun b => ixG a b) >>= iterG) >>= compLine >>= fun ds => compR (fun d e => some (e.set 5 (some d))) (fun e => ((((getV 1 e) >>= fun a => ((getV 5 e) >>= fun a => (.ok (.int 1)) >>= fun b => ixG a b) >>= fun b => ixG a b) >>= fun a => (.ok .non) >>= fun b => notNG a b) >>= asB)) (fun e => ((getV 1 e) >>= fun a => ((getV 5 e) >>= fun a => (.ok (.int 1)) >>= fun b => ixG a b) >>= fun b => ixG a b)) (wipeE e [5]) ds >>= fun ys => .ok (.lst ys))) fun d => optS (some (e.set 4 (some d))))).then fun e => (((liftR e ((.ok .non)) fun d => optS (some (e.set 6 (some d))))).then fun e => (((liftR e ((((getV 4 e) >>= fun a => ((.ok []) >>= lstR) >>= fun b => neG a b) >>= asB)) fun b => if b = true then (liftR e (((.ok (.int 1)) >>= fun a => ((getV 4 e) >>= minG) >>= fun b => addG a b)) fun d => optS (some (e.set 6 (some d)))) else (.nx e))).then fun e => (((liftR e ((((getV 3 e) >>= fun a => ((getV 0 e) >>= fun a => (.ok (.int 1)) >>= fun b => ixG a b) >>= fun b => inG a b) >>= asB)) fun b => if b = true then (liftR e ((.ok (.int 0))) fun d => optS (some (e.set 6 (some d)))) else (.nx e))).then fun e => (liftR e (((((getV 1 e) >>= fun a => (getV 3 e) >>= fun b => ixG a b) >>= fun a => (getV 6 e) >>= fun b => neG a b) >>= asB)) fun b => if b = true then (liftR e ((.ok (.bl false))) .rt) else (.nx e)))))))
theorem deep_step (w : WF many ds es) (g : Good ds.length (nbs ds) (ens es) f) {i : Nat} {j2 j3 j4 j5 j6 : Option D} {env : Env} (hi : i < ds.length) (ee : env = dEnv ds es f j2 j3 j4 j5 j6) :
    So (deepB (.int (i : Nat)) env) (fun env => ∃ j3 j4 j5 j6, env = dEnv ds es f j2 j3 j4 j5 j6) rt bk (fun env => ∃ j3 j4 j5 j6, env = dEnv ds es f j2 j3 j4 j5 j6) ex := by
  have hl := w.len
  unfold deepB
  subst ee
  unfold dEnv
  have h1 : atI ds (i : Int) = some ds[i] := by rw [at_nat]; exact List.getElem?_eq_getElem hi
  have hd : ds.getD i [] = ds[i] := by simp [hi]
  have hmem : ds[i] ∈ ds := List.getElem_mem hi
  have hsh := small_line (w.short _ hmem)
  obtain ⟨ps, hps⟩ : ∃ ps, ps = ds[i] := ⟨_, rfl⟩
  rw [← hps] at h1 hd hmem hsh
  have hin := w.in' h1
  have hdue := good_due g hi hd
  refine so_seq (so_next ?_)
  refine so_asg (d := .lst ((vals f ps).map D.int)) ?_ ?_
  · have e1 : ixG (.tup (ds.map encR)) (.int (i : Nat)) = .ok (encR ps) := ixt_ok (by simp [h1])
    have e2 : iterG (encR ps) = .ok (ps.map encP) := rfl
    have e3 : compLine (ps.map encP) = .ok (ps.map encP) := line_ok (by rw [List.length_map]; exact hsh)
    simp only [List.set, getV_succ, getV_zero, ok_bind, ix_H0, e1, e2, e3, wipeE]
    rw [comp_eq (enc := encP) (fun p => !decide (encO (f p.2.toNat) = .non)) (fun p => encO (f p.2.toNat)) (fun x hx => ⟨_, rfl, ?_, fun _ => ?_⟩), vals_eq]
    · rfl
    · simp only [List.set, getV_succ, getV_zero, ok_bind, ix_P1, tab_ix f (hin x hx).1 (hin x hx).2, notN_def, asB_bl]
    · simp only [List.set, getV_succ, getV_zero, ok_bind, ix_P1, tab_ix f (hin x hx).1 (hin x hx).2]
  refine so_asg (d := .non) rfl ?_
  refine so_mid (fun env => env = dEnv ds es f j2 (some (.int (i : Nat))) (some (.lst ((vals f ps).map D.int))) j5 (some (encO ((minL (vals f ps)).map (1 + ·))))) ?_ ?_
  · refine so_test0 (b := !decide (vals f ps = [])) ?_ (fun hb => ?_) (fun hb => ?_)
    · simp only [List.set, getV_succ, getV_zero, ok_bind, lst0_ok, neNilV, asB_bl]
    · cases hm : minL (vals f ps) with
      | none => rw [minL_none hm] at hb; simp at hb
      | some m =>
        refine so_asg0 (d := .int (1 + m)) ?_ ?_
        · simp only [List.set, getV_succ, getV_zero, ok_bind, min_ok hm, addG_int]
        · rfl
    · have hv : vals f ps = [] := by simpa using hb
      refine so_next ?_
      rw [hv]; rfl
  · intro env ee
    subst ee
    unfold dEnv
    refine so_mid (fun env => env = dEnv ds es f j2 (some (.int (i : Nat))) (some (.lst ((vals f ps).map D.int))) j5 (some (encO (due f es ps i)))) ?_ ?_
    · refine so_test0 (b := decide ((i : Int) ∈ es)) ?_ (fun hb => ?_) (fun hb => ?_)
      · simp only [getV_succ, getV_zero, ok_bind, ix_H1, in_tup_int, asB_bl]
      · refine so_asg0 (d := .int 0) rfl ?_
        unfold due
        rw [if_pos (by simpa using hb)]; rfl
      · refine so_next ?_
        unfold due
        rw [if_neg (by simpa using hb)]; rfl
    · intro env ee
      subst ee
      unfold dEnv
      refine so_test0 (b := false) ?_ (fun hb => by cases hb) (fun _ => so_next ⟨_, _, _, _, rfl⟩)
      have e1 : ixG (tab ds.length f) (.int (i : Nat)) = .ok (encO (f i)) := tab_ix f (by omega) (by omega)
      simp only [getV_succ, getV_zero, ok_bind, e1, neO, asB_bl]
      rw [hdue]; simp
noncomputable def deepR : Env → SR := fun e => (((liftR e (((((getV 1 e) >>= lenG) >>= fun d => (.ok []) >>= fun ds => .ok (d :: ds)) >>= range1)) fun ds => forL (fun d e => (optS (some (e.set 3 (some d)))).then fun e => (((liftR e ((((((getV 0 e) >>= fun a => (.ok (.int 0)) >>= fun b => ixG a b) >>= fun a => (getV 3 e) >>= fun b => ixG a b) >>= iterG) >>= compLine >>= fun ds => compR (fun d e => some (e.set 5 (some d))) (fun e => ((((getV 1 e) >>= fun a => ((getV 5 e) >>= fun a => (.ok (.int 1)) >>= fun b => ixG a b) >>= fun b => ixG a b) >>= fun a => (.ok .non) >>= fun b => notNG a b) >>= asB)) (fun e => ((getV 1 e) >>= fun a => ((getV 5 e) >>= fun a => (.ok (.int 1)) >>= fun b => ixG a b) >>= fun b => ixG a b)) (wipeE e [5]) ds >>= fun ys => .ok (.lst ys))) fun d => optS (some (e.set 4 (some d))))).then fun e => (((liftR e ((.ok .non)) fun d => optS (some (e.set 6 (some d))))).then fun e => (((liftR e ((((getV 4 e) >>= fun a => ((.ok []) >>= lstR) >>= fun b => neG a b) >>= asB)) fun b => if b = true then (liftR e (((.ok (.int 1)) >>= fun a => ((getV 4 e) >>= minG) >>= fun b => addG a b)) fun d => optS (some (e.set 6 (some d)))) else (.nx e))).then fun e => (((liftR e ((((getV 3 e) >>= fun a => ((getV 0 e) >>= fun a => (.ok (.int 1)) >>= fun b => ixG a b) >>= fun b => inG a b) >>= asB)) fun b => if b = true then (liftR e ((.ok (.int 0))) fun d => optS (some (e.set 6 (some d)))) else (.nx e))).then fun e => (liftR e (((((getV 1 e) >>= fun a => (getV 3 e) >>= fun b => ixG a b) >>= fun a => (getV 6 e) >>= fun b => neG a b) >>= asB)) fun b => if b = true then (liftR e ((.ok (.bl false))) .rt) else (.nx e))))))) ds e)).then fun e => (liftR e ((.ok (.bl true))) .rt))
theorem range1_nat {n : Nat} (h : n < 1000000) : range1 [.int n] = .ok ((List.range n).map fun (i : Nat) => D.int i) := by
  rw [range1_int (by omega) (by omega), Int.toNat_natCast]
theorem deep_rest (w : WF many ds es) (g : Good ds.length (nbs ds) (ens es) f) {j2 : Option D} {env : Env} (ee : env = dEnv ds es f j2 none none none none) : So (deepR env) nx (fun d => d = .bl true) bk ct ex := by
  have hl := w.len
  have wsm := w.small
  have lt : lenG (tab ds.length f) = .ok (.int ds.length) := by
    unfold tab; simp
  unfold deepR
  refine so_mid (fun env => ∃ j3 j4 j5 j6, env = dEnv ds es f j2 j3 j4 j5 j6) ?_ ?_
  · refine so_go (a := (List.range ds.length).map fun (i : Nat) => D.int i) ?_ ?_
    · have hq := range1_nat (n := ds.length) (by omega)
      refine bindOk (a := [.int ds.length]) ?_ ?_
      · refine bindOk (a := .int ds.length) ?_ rfl
        refine bindOk (a := tab ds.length f) ?_ ?_
        · rw [ee]; rfl
        · exact lt
      · exact hq
    · refine so_forL (fun p env => ∃ j3 j4 j5 j6, env = dEnv ds es f j2 j3 j4 j5 j6) ⟨none, none, none, none, ee⟩ (fun p i q env e h => ?_) (fun env h => h)
      obtain ⟨j3, j4, j5, j6, ee⟩ := h
      refine deep_step w g ?_ ee
      have : i ∈ List.range ds.length := by rw [e]; simp
      exact List.mem_range.mp this
  · intro env h
    obtain ⟨j3, j4, j5, j6, ee⟩ := h
    subst ee
    exact so_ret rfl rfl
theorem m_deep_ok (w : WF many ds es) (g : Good ds.length (nbs ds) (ens es) f) : m__law_deep [encH ds es, tab ds.length f] = .ok (.bl true) := by
  have hl := w.len
  have hline := w.line
  apply eq_of_ro
  unfold m__law_deep
  rw [mden_at (by rfl), ro_end]
  show So (den__law_deep [some (encH ds es), some (tab ds.length f), none, none, none, none, none]) _ _ _ _ _
  unfold den__law_deep
  have lt : lenG (tab ds.length f) = .ok (.int ds.length) := by
    unfold tab; simp
  refine so_test (b := false) ?_ (fun hb => by cases hb) (fun _ => ?_)
  · simp [show isTy "list" (tab ds.length f) = .ok (.bl true) from rfl, lt, ix_H0]
  refine so_next ?_
  refine so_mid (fun env => ∃ j2, env = dEnv ds es f j2 none none none none) ?_ ?_
  · refine so_go (a := (List.range ds.length).map fun i => encO (f i)) rfl ?_
    refine so_forL (fun p env => ∃ j2, env = dEnv ds es f j2 none none none none) ⟨none, rfl⟩ (fun p x q env e ⟨j2, ee⟩ => ?_) (fun env h => h)
    subst ee
    unfold dEnv
    refine so_seq (so_next ?_)
    refine so_test0 (b := false) ?_ (fun hb => by cases hb) (fun _ => so_next ⟨some (encO (f x)), rfl⟩)
    rcases m_wholeO (o := f x) with h | h
    · simp only [List.set, getV_succ, getV_zero, ok_bind, notN_def, asB_bl, h]
      rfl
    · simp only [List.set, getV_succ, getV_zero, ok_bind, notN_def, asB_bl, h]
      cases encO (f x) <;> rfl
  rintro env ⟨j2, ee⟩
  exact deep_rest w g ee
end
end Pu.k29

namespace Pu.k29
open PySem PySem.Spec PyProof.Rows L2 Pu
section
variable {many : Int} {ds : List (List Pr)} {es : List Int} {f : Nat → Option Int}
def rms (ds : List (List Pr)) (t : Txt) : List D := (List.range (t.length + 1)).map fun k => encO (goesFrom ds 0 (t.take k))
theorem rms_len {t : Txt} : (rms ds t).length = t.length + 1 := by unfold rms; simp
theorem rms_last {t : Txt} : ixG (.lst (rms ds t)) (.int (-1)) = .ok (encO (goesFrom ds 0 t)) := by
  refine ixl_ok ?_
  rw [at_neg1]
  unfold rms
  rw [List.range_succ, List.map_append]
  simp
theorem rms_snoc {t : Txt} {c : Nat} : rms ds t ++ [encO (goesFrom ds 0 (t ++ [c]))] = rms ds (t ++ [c]) := by
  unfold rms
  rw [List.length_append, List.length_singleton, List.range_succ (n := t.length + 1), List.map_append]
  congr 1
  · apply List.map_congr_left
    intro k hk
    have := List.mem_range.mp hk
    rw [List.take_append_of_le_length (by omega)]
  · simp [List.take_of_length_le]
theorem neR {ps : List Pr} : neG (encR ps) (.tup []) = .ok (.bl (!decide (ps = []))) := by
  have h : ∀ (n : Nat) (ps : List Pr), pyOkL (n + 1) (ps.map encP) = true := fun n ps => by
    induction ps with
    | nil => rfl
    | cons p ps ih =>
      show (pyOk (n + 1) (encP p) && pyOkL (n + 1) (ps.map encP)) = true
      rw [ih, Bool.and_true]
      unfold encP
      show (pyOk n (.str [p.1]) && (pyOk n (.int p.2) && true)) = true
      cases n <;> rfl
  unfold neG ifR
  rw [if_pos (show (pyOk 30 (encR ps) && pyOk 30 (.tup [])) = true from by
    show (pyOkL 29 (ps.map encP) && true) = true
    rw [h 28]; rfl)]
  cases ps with
  | nil => rfl
  | cons x xs => simp; rfl
def tEnv (ds : List (List Pr)) (es cells : List Int) (t : Txt) (j4 j5 j6 : Option D) : Env := [some (encH ds es), some (.lst (cells.map D.int)), some (.str t), some (.lst (rms ds t)), j4, j5, j6]
noncomputable def textB : D → Env → SR := (fun d e => (optS (some (e.set 4 (some d)))).then fun e => (((liftR e (((.ok []) >>= tupR)) fun d => optS (some (e.set 5 (some d))))).then fun e => (((liftR e (((((getV 3 e) >>= fun a => ((.ok (.int 1)) >>= negG) >>= fun b => ixG a b) >>= fun a => (.ok .non) >>= fun b => notNG a b) >>= asB)) fun b => if b = true then (liftR e (((((getV 0 e) >>= fun a => (.ok (.int 0)) >>= fun b => ixG a b) >>= fun a => ((getV 3 e) >>= fun a => ((.ok (.int 1)) >>= negG) >>= fun b => ixG a b) >>= fun b => ixG a b) >>= flatR)) fun d => optS (some (e.set 5 (some d)))) else (.nx e))).then fun e => (((liftR e (((((getV 4 e) >>= fun a => (.ok (.int 30)) >>= fun b => divI a b) >>= fun d => (.ok []) >>= fun ds => .ok (d :: ds)) >>= m__law_sign)) fun d => optS (some (e.set 6 (some d))))).then fun e => (((liftR e ((((((getV 4 e) >>= fun a => (.ok (.int 30)) >>= fun b => modI a b) >>= fun a => (.ok (.int 0)) >>= fun b => gtG a b) >>= asB) >>= fun b => if b = true then (((getV 5 e) >>= fun a => ((.ok []) >>= tupR) >>= fun b => neG a b) >>= asB) else .ok false)) fun b => if b = true then (liftR e (((((getV 5 e) >>= fun a => (((getV 4 e) >>= fun a => (.ok (.int 30)) >>= fun b => divI a b) >>= fun a => ((getV 5 e) >>= lenG) >>= fun b => modI a b) >>= fun b => ixG a b) >>= fun a => (.ok (.int 0)) >>= fun b => ixG a b) >>= flatR)) fun d => optS (some (e.set 6 (some d)))) else (.nx e))).then fun e => (((liftR e (((getV 2 e) >>= fun a => (getV 6 e) >>= fun b => addG a b)) fun d => optS (some (e.set 2 (some d))))).then fun e => (liftR e (lstAt 3 e >>= fun ds => ((((getV 0 e) >>= fun d => (((getV 3 e) >>= fun a => ((.ok (.int 1)) >>= negG) >>= fun b => ixG a b) >>= fun d => ((getV 6 e) >>= fun d => (.ok []) >>= fun ds => .ok (d :: ds)) >>= fun ds => .ok (d :: ds)) >>= fun ds => .ok (d :: ds)) >>= m__law_door) >>= fun d => (.ok []) >>= fun ds => .ok (d :: ds)) >>= fun as => appG ds as) fun ds' => .nx (setL 3 ds' e))))))))
theorem text_step (w : WF many ds es) {cells : List Int} {x : Int} {t : Txt} {j4 j5 j6 : Option D} {env : Env} (ht : t.length ≤ 1000) (ee : env = tEnv ds es cells t j4 j5 j6) :
    So (textB (.int x) env) (fun env => ∃ (c : Nat) (j4 j5 j6 : Option D), env = tEnv ds es cells (t ++ [c]) j4 j5 j6) rt bk (fun env => ∃ (c : Nat) (j4 j5 j6 : Option D), env = tEnv ds es cells (t ++ [c]) j4 j5 j6) ex := by
  have hl := w.len
  have hbig : (100000 : Nat) ≤ sizeLine := small_line (by decide)
  have ho : ∀ r, goesFrom ds 0 t = some r → 0 ≤ r ∧ r < many := fun r h => w.goes ⟨Int.le_refl 0, w.pos⟩ h
  obtain ⟨o, hgo⟩ : ∃ o, o = goesFrom ds 0 t := ⟨_, rfl⟩
  have hlast : ixG (.lst (rms ds t)) (.int (-1)) = .ok (encO o) := by rw [hgo]; exact rms_last
  rw [← hgo] at ho
  have hneg : negG (.int 1) = .ok (.int (-1)) := rfl
  unfold textB
  subst ee
  unfold tEnv
  refine so_seq (so_next ?_)
  refine so_asg (d := .tup []) (by simp only [ok_bind, tup0_ok]) ?_
  refine so_mid (fun env => ∃ ps : List Pr, env = [some (encH ds es), some (.lst (cells.map D.int)), some (.str t), some (.lst (rms ds t)), some (.int x), some (encR ps), j6] ∧ ps.length ≤ 100000) ?_ ?_
  · refine so_test0 (b := !decide (encO o = .non)) ?_ (fun hb => ?_) (fun hb => so_next ⟨[], rfl, by simp⟩)
    · simp only [List.set, getV_succ, getV_zero, ok_bind, hneg, hlast, notN_def, asB_bl]
    · cases o with
      | none => simp at hb
      | some r =>
        obtain ⟨ps, h1, h2⟩ := w.at (ho r rfl)
        have e1 : ixG (.tup (ds.map encR)) (.int r) = .ok (encR ps) := ixt_ok (by simp [h1])
        refine so_asg0 (d := encR ps) ?_ ⟨ps, rfl, w.short _ (List.mem_of_getElem? h2)⟩
        simp only [List.set, getV_succ, getV_zero, ok_bind, hneg, hlast, ix_H0, encO_some, e1]
        exact flat_ok flat_encR
  · rintro env ⟨ps, ee, hps⟩
    subst ee
    have hdv : CDivW x 30 := cdiv (by decide) (by decide)
    refine so_asg (d := .str [sg (x / 30)]) ?_ ?_
    · simp only [getV_succ, getV_zero, ok_bind, div_ok hdv, m_sign]
    refine so_mid (fun env => ∃ c : Nat, env = [some (encH ds es), some (.lst (cells.map D.int)), some (.str t), some (.lst (rms ds t)), some (.int x), some (encR ps), some (.str [c])]) ?_ ?_
    · refine so_test0 (b := decide (0 < x % 30) && !decide (ps = [])) ?_ (fun hb => ?_) (fun hb => so_next ⟨_, rfl⟩)
      · simp only [List.set, getV_succ, getV_zero, ok_bind, mod_ok (show (0 : Int) < 30 by decide), gt_int', asB_bl, tup0_ok, neR]
        cases decide (0 < x % 30) <;> rfl
      · have hne : ps ≠ [] := by
          rw [Bool.and_eq_true] at hb
          simpa using hb.2
        have hpos : 0 < (ps.length : Int) := by
          have := List.length_pos_iff.mpr hne
          omega
        have hin := emod_in (a := x / 30) hpos
        obtain ⟨p, hp1, hp2⟩ := at_in (xs := ps) hin.1 hin.2
        have e0 : lenG (encR ps) = .ok (.int ps.length) := by
          show R.ok (D.int ((ps.map encP).length : Nat)) = _
          rw [List.length_map]
        have e1 : ixG (encR ps) (.int (x / 30 % (ps.length : Int))) = .ok (encP p) := ixt_ok (by simp [hp1])
        refine so_asg0 (d := .str [p.1]) ?_ ⟨p.1, rfl⟩
        simp only [List.set, getV_succ, getV_zero, ok_bind, div_ok hdv, e0, mod_ok hpos, e1, ix_P0, flatR_str]
    · rintro env ⟨c, ee⟩
      subst ee
      refine so_asg (d := .str (t ++ [c])) ?_ ?_
      · simp only [getV_succ, getV_zero, ok_bind]
        exact add_ok (by simp only [List.length_singleton]; omega)
      have hd : m__law_door [encH ds es, encO o, .str [c]] = .ok (encO (goesFrom ds 0 (t ++ [c]))) := by
        rw [m_ldoor (fun r h => by obtain ⟨ps, h1, _⟩ := w.at (ho r h); exact ⟨ps, h1⟩), goes_snoc, ← hgo]
      have happ : appG (rms ds t) [encO (goesFrom ds 0 (t ++ [c]))] = .ok (rms ds (t ++ [c])) := by
        rw [app_ok (by rw [rms_len]; omega), rms_snoc]
      refine so_go (a := rms ds (t ++ [c])) ?_ (so_next ⟨c, some (.int x), some (encR ps), some (.str [c]), ?_⟩)
      · refine bindOk (a := rms ds t) rfl ?_
        simp only [List.set, getV_succ, getV_zero, ok_bind, hneg, hlast, hd]
        exact happ
      · rfl
theorem m_text_ok (w : WF many ds es) {cells : List Int} (hc : cells.length ≤ 1000) : ∃ t : Txt, m__law_text [encH ds es, .lst (cells.map D.int)] = .ok (.tup [.str t, .lst (rms ds t)]) ∧ t.length ≤ 1000 := by
  suffices h : Ro (m__law_text [encH ds es, .lst (cells.map D.int)]) (fun d => ∃ t : Txt, d = .tup [.str t, .lst (rms ds t)] ∧ t.length ≤ 1000) (fun _ => False) by
    obtain ⟨v, h1, t, h2, h3⟩ := ex_of_ro h
    exact ⟨t, by rw [h1, h2], h3⟩
  unfold m__law_text
  rw [mden_at (by rfl), ro_end]
  show So (den__law_text [some (encH ds es), some (.lst (cells.map D.int)), none, none, none, none, none]) _ _ _ _ _
  unfold den__law_text
  refine so_asg (d := .str []) rfl ?_
  refine so_asg (d := .lst (rms ds [])) rfl ?_
  refine so_mid (fun env => ∃ (t : Txt) (j4 j5 j6 : Option D), env = tEnv ds es cells t j4 j5 j6 ∧ t.length ≤ 1000) ?_ ?_
  · refine so_go (a := cells.map D.int) rfl ?_
    refine so_forL (fun p env => ∃ (t : Txt) (j4 j5 j6 : Option D), env = tEnv ds es cells t j4 j5 j6 ∧ t.length = p.length) ⟨[], none, none, none, rfl, rfl⟩ (fun p x q env e h => ?_) (fun env h => ?_)
    · obtain ⟨t, j4, j5, j6, ee, ht⟩ := h
      have hp : p.length < 1000 := by
        have := congrArg List.length e
        rw [List.length_append, List.length_cons] at this
        omega
      have fin : ∀ env : Env, (∃ (c : Nat) (j4 j5 j6 : Option D), env = tEnv ds es cells (t ++ [c]) j4 j5 j6) → ∃ (t : Txt) (j4 j5 j6 : Option D), env = tEnv ds es cells t j4 j5 j6 ∧ t.length = (p ++ [x]).length := fun env h => by
        obtain ⟨c, j4, j5, j6, ee⟩ := h
        exact ⟨_, j4, j5, j6, ee, by rw [List.length_append, List.length_append, List.length_singleton, List.length_singleton, ht]⟩
      exact (text_step w (by omega) ee).mono fin (fun _ q => q) (fun _ q => q) fin (fun _ _ q => q)
    · obtain ⟨t, j4, j5, j6, ee, ht⟩ := h
      exact ⟨t, j4, j5, j6, ee, by omega⟩
  · rintro env ⟨t, j4, j5, j6, ee, ht⟩
    subst ee
    refine so_ret (d := .tup [.str t, .lst (rms ds t)]) ?_ ⟨t, rfl, ht⟩
    unfold tEnv
    simp only [getV_succ, getV_zero, ok_bind, tup2_ok]
end
end Pu.k29

namespace Pu.k29
open PySem PySem.Spec PyProof.Rows L2 Pu
section
variable {many : Int} {ds : List (List Pr)} {es : List Int} {f : Nat → Option Int}
noncomputable def lawB : D → Env → SR := (fun d e => (optS (some (e.set 10 (some d)))).then fun e => (liftR e (((((((getV 10 e) >>= fun a => (((getV 0 e) >>= fun d => ((.ok (.int 2)) >>= fun d => (.ok []) >>= fun ds => .ok (d :: ds)) >>= fun ds => .ok (d :: ds)) >>= m__law_cell_at) >>= fun b => addG a b) >>= fun a => (.ok (.int 7)) >>= fun b => modI a b) >>= fun a => (.ok (.int 0)) >>= fun b => eqG a b) >>= asB) >>= fun b => if b = true then .ok true else (((getV 10 e) >>= fun a => ((getV 8 e) >>= lenG) >>= fun b => eqG a b) >>= asB))) fun b => if b = true then (liftR e ((((((getV 5 e) >>= fun d => (((getV 9 e) >>= fun a => (getV 10 e) >>= fun b => ixG a b) >>= fun d => ((getV 6 e) >>= fun d => ((((getV 5 e) >>= fun d => (((getV 8 e) >>= fun a => (.ok none) >>= fun lo => ((getV 10 e) >>= asI) >>= fun hi => slO a lo hi) >>= fun d => (.ok []) >>= fun ds => .ok (d :: ds)) >>= fun ds => .ok (d :: ds)) >>= m_tail) >>= fun d => (.ok []) >>= fun ds => .ok (d :: ds)) >>= fun ds => .ok (d :: ds)) >>= fun ds => .ok (d :: ds)) >>= fun ds => .ok (d :: ds)) >>= m__law_tail) >>= asB) >>= fun b => .ok (!b))) fun b => if b = true then (liftR e ((.ok (.bl false))) .rt) else (.nx e)) else (.nx e)))
noncomputable def lawR : Env → SR := fun e => (((liftR e ((((getV 5 e) >>= fun d => (.ok []) >>= fun ds => .ok (d :: ds)) >>= m_depths)) fun d => optS (some (e.set 6 (some d))))).then fun e => (((liftR e ((((((getV 5 e) >>= fun d => ((getV 6 e) >>= fun d => (.ok []) >>= fun ds => .ok (d :: ds)) >>= fun ds => .ok (d :: ds)) >>= m__law_deep) >>= asB) >>= fun b => .ok (!b))) fun b => if b = true then (liftR e ((.ok (.bl false))) .rt) else (.nx e))).then fun e => (((liftR e ((((getV 5 e) >>= fun d => (.ok []) >>= fun ds => .ok (d :: ds)) >>= m_depths)) fun d => optS (some (e.set 7 (some d))))).then fun e => (((liftR e ((.ok (.int 41)) >>= fun v => getV 7 e >>= fun c => (.ok (.int 0)) >>= fun j => putG c j v) fun d => .nx (setV 7 d e))).then fun e => (((liftR e (lstAt 7 e >>= fun ds => ((.ok (.int 0)) >>= fun d => (.ok []) >>= fun ds => .ok (d :: ds)) >>= fun as => appG ds as) fun ds' => .nx (setL 7 ds' e))).then fun e => (((liftR e ((((((getV 5 e) >>= fun d => (.ok []) >>= fun ds => .ok (d :: ds)) >>= m_depths) >>= fun a => (getV 6 e) >>= fun b => neG a b) >>= asB)) fun b => if b = true then (liftR e ((.ok (.bl false))) .rt) else (.nx e))).then fun e => (((liftR e ((((getV 5 e) >>= fun d => (((getV 3 e) >>= fun a => ((getV 4 e) >>= asI) >>= fun lo => (.ok none) >>= fun hi => slO a lo hi) >>= fun d => (.ok []) >>= fun ds => .ok (d :: ds)) >>= fun ds => .ok (d :: ds)) >>= m__law_text)) fun d => optS (tupT 2 (consT (fun d e => some (e.set 8 (some d))) (consT (fun d e => some (e.set 9 (some d))) nilT)) d e))).then fun e => (((liftR e ((((((getV 8 e) >>= lenG) >>= fun a => (.ok (.int 1)) >>= fun b => addG a b) >>= fun d => (.ok []) >>= fun ds => .ok (d :: ds)) >>= range1)) fun ds => forL (fun d e => (optS (some (e.set 10 (some d)))).then fun e => (liftR e (((((((getV 10 e) >>= fun a => (((getV 0 e) >>= fun d => ((.ok (.int 2)) >>= fun d => (.ok []) >>= fun ds => .ok (d :: ds)) >>= fun ds => .ok (d :: ds)) >>= m__law_cell_at) >>= fun b => addG a b) >>= fun a => (.ok (.int 7)) >>= fun b => modI a b) >>= fun a => (.ok (.int 0)) >>= fun b => eqG a b) >>= asB) >>= fun b => if b = true then .ok true else (((getV 10 e) >>= fun a => ((getV 8 e) >>= lenG) >>= fun b => eqG a b) >>= asB))) fun b => if b = true then (liftR e ((((((getV 5 e) >>= fun d => (((getV 9 e) >>= fun a => (getV 10 e) >>= fun b => ixG a b) >>= fun d => ((getV 6 e) >>= fun d => ((((getV 5 e) >>= fun d => (((getV 8 e) >>= fun a => (.ok none) >>= fun lo => ((getV 10 e) >>= asI) >>= fun hi => slO a lo hi) >>= fun d => (.ok []) >>= fun ds => .ok (d :: ds)) >>= fun ds => .ok (d :: ds)) >>= m_tail) >>= fun d => (.ok []) >>= fun ds => .ok (d :: ds)) >>= fun ds => .ok (d :: ds)) >>= fun ds => .ok (d :: ds)) >>= fun ds => .ok (d :: ds)) >>= m__law_tail) >>= asB) >>= fun b => .ok (!b))) fun b => if b = true then (liftR e ((.ok (.bl false))) .rt) else (.nx e)) else (.nx e))) ds e)).then fun e => (liftR e ((.ok (.bl true))) .rt)))))))))
theorem m_cell0 {ns : List Int} : m__law_cell_at [.scr ns, .int 0] = .ok (.int (cell ns 0)) := m_cell (k := 0)
theorem m_cell1 {ns : List Int} : m__law_cell_at [.scr ns, .int 1] = .ok (.int (cell ns 1)) := m_cell (k := 1)
theorem m_cell2 {ns : List Int} : m__law_cell_at [.scr ns, .int 2] = .ok (.int (cell ns 2)) := m_cell (k := 2)
def wEnv (ns : List Int) (a b : Option D) (rest : List Int) (half : Int) (ds : List (List Pr)) (es : List Int) (f : Nat → Option Int) (j7 : Option D) (t : Txt) (j10 : Option D) : Env :=
  [some (.scr ns), a, b, some (.lst (rest.map D.int)), some (.int half), some (encH ds es), some (tab ds.length f), j7, some (.str t), some (.lst (rms ds t)), j10]
theorem law_step (w : WF many ds es) (hf : m_depths [encH ds es] = .ok (tab ds.length f)) (g : Good ds.length (nbs ds) (ens es) f) (small : ∀ i v, i < ds.length → f i = some v → v ≤ 1000)
    {ns rest : List Int} {half : Int} {a b j7 j10 : Option D} {t : Txt} {k : Nat} {env : Env} (hk : k ≤ t.length) (ht : t.length ≤ 1000) (ee : env = wEnv ns a b rest half ds es f j7 t j10) :
    So (lawB (.int (k : Nat)) env) (fun env => ∃ j10, env = wEnv ns a b rest half ds es f j7 t j10) rt bk (fun env => ∃ j10, env = wEnv ns a b rest half ds es f j7 t j10) ex := by
  have hbig : (100000 : Nat) ≤ sizeLine := small_line (by decide)
  have hline : t.length ≤ sizeLine := by omega
  have hlen : lenG (.str t) = .ok (.int t.length) := by
    show (if _ then R.ok (D.int _) else _) = _
    rw [if_pos hline]
  have e1 : ixG (.lst (rms ds t)) (.int (k : Nat)) = .ok (encO (goesFrom ds 0 (t.take k))) := by
    refine ixl_ok ?_
    rw [at_nat]
    unfold rms
    rw [List.getElem?_map, List.getElem?_range (by omega)]; rfl
  have e2 : m_tail [encH ds es, .str (t.take k)] = .ok (told ds f (goesFrom ds 0 (t.take k))) := m_tail_ok w hf g small
  have e3 := m_ltail w g small (o := goesFrom ds 0 (t.take k)) (fun r h => w.goes ⟨Int.le_refl 0, w.pos⟩ h)
  have e4 : slO (.str t) none (some (k : Int)) = .ok (.str (t.take k)) := by rw [cuts_ok hline, cut_to]
  unfold lawB
  rw [ee]
  unfold wEnv
  refine so_seq (so_next ?_)
  refine so_test0 (b := decide (((k : Int) + cell ns 2) % 7 = 0) || decide ((k : Int) = t.length)) ?_ (fun hb => ?_) (fun hb => so_next ⟨_, rfl⟩)
  · simp only [List.set, getV_succ, getV_zero, ok_bind, m_cell2, addG_int, mod_ok (show (0 : Int) < 7 by decide), eq_int', asB_bl, hlen]
    cases decide (((k : Int) + cell ns 2) % 7 = 0) <;> rfl
  · refine so_test0 (b := false) ?_ (fun hb => by cases hb) (fun hb => so_next ⟨_, rfl⟩)
    simp only [List.set, getV_succ, getV_zero, ok_bind, e1, show asI (.int (k : Nat)) = .ok (some (k : Int)) from rfl, e4, e2, e3, asB_bl]
    rfl
end
end Pu.k29

namespace Pu.k29
open PySem PySem.Spec PyProof.Rows L2 Pu
section
variable {many : Int} {ds : List (List Pr)} {es : List Int} {f : Nat → Option Int}
theorem ne_tab {n : Nat} {f : Nat → Option Int} : neG (tab n f) (tab n f) = .ok (.bl false) := by
  refine ne_same ?_
  unfold tab
  show pyOkL 29 _ = true
  induction List.range n with
  | nil => rfl
  | cons a l ih =>
    show (pyOk 29 (encO (f a)) && pyOkL 29 _) = true
    rw [ih, Bool.and_true]
    cases f a <;> rfl
theorem law_rest (w : WF many ds es) {ns rest : List Int} {half : Int} {a b : Option D} {env : Env} (hr : rest.length ≤ 1000) (hh : 0 ≤ half)
    (ee : env = [some (.scr ns), a, b, some (.lst (rest.map D.int)), some (.int half), some (encH ds es), none, none, none, none, none]) :
    So (lawR env) nx (fun d => d = .bl true) bk ct ex := by
  have hbig : (100000 : Nat) ≤ sizeLine := small_line (by decide)
  have hl := w.len
  have wp := w.pos
  obtain ⟨f, hf, g, small⟩ := m_depths_ok w
  have hdeep := m_deep_ok w g
  have hcut : slO (.lst (rest.map D.int)) (some half) none = .ok (.lst ((cutL rest (some half) none).map D.int)) := by
    rw [cutl_ok (by rw [cut_mapI]; exact flatL_ints), cut_mapI]
  have hcl : (cutL rest (some half) none).length ≤ 1000 := by
    unfold cutL
    rw [List.length_take, List.length_drop]; omega
  obtain ⟨t, htext, ht⟩ := m_text_ok w hcl
  have hline : t.length ≤ sizeLine := by omega
  have hlen : lenG (.str t) = .ok (.int t.length) := by
    show (if _ then R.ok (D.int _) else _) = _
    rw [if_pos hline]
  unfold lawR
  rw [ee]
  refine so_asg (d := tab ds.length f) ?_ ?_
  · simp only [getV_succ, getV_zero, ok_bind, hf]
  refine so_test (b := false) ?_ (fun hb => by cases hb) (fun _ => so_next ?_)
  · simp only [List.set, getV_succ, getV_zero, ok_bind, hdeep, asB_bl]; rfl
  refine so_asg (d := tab ds.length f) ?_ ?_
  · simp only [List.set, getV_succ, getV_zero, ok_bind, hf]
  have hput := put_tab (n := ds.length) (f := f) (i := 0) (v := some 41) (Int.le_refl 0) (by omega)
  rw [encO_some] at hput
  refine so_seq (so_go (a := tab ds.length fun j => if j = (0 : Int).toNat then some 41 else f j) ?_ (so_next ?_))
  · simp only [List.set, getV_succ, getV_zero, ok_bind]
    exact hput
  refine so_seq (so_go (a := ((List.range ds.length).map fun i => encO ((fun j => if j = (0 : Int).toNat then some 41 else f j) i)) ++ [.int 0]) ?_ (so_next ?_))
  · refine bindOk (a := (List.range ds.length).map fun i => encO ((fun j => if j = (0 : Int).toNat then some 41 else f j) i)) rfl ?_
    refine bindOk (a := [.int 0]) rfl ?_
    have := w.small
    exact app_ok (by rw [List.length_map, List.length_range]; omega)
  refine so_test (b := false) ?_ (fun hb => by cases hb) (fun _ => so_next ?_)
  · simp only [setL, setV, List.set, getV_succ, getV_zero, ok_bind, hf, ne_tab, asB_bl]
  refine so_seq (so_go (a := .tup [.str t, .lst (rms ds t)]) ?_ ?_)
  · simp only [setL, setV, List.set, getV_succ, getV_zero, ok_bind, show asI (.int half) = .ok (some half) from rfl, hcut, htext]
  refine so_next ?_
  refine so_mid (fun env => ∃ j7 j10, env = wEnv ns a b rest half ds es f j7 t j10) ?_ ?_
  · refine so_go (a := (List.range (t.length + 1)).map fun (i : Nat) => D.int i) ?_ ?_
    · have hq := range1_nat (n := t.length + 1) (by omega)
      refine bindOk (a := [.int ((t.length + 1 : Nat) : Int)]) ?_ ?_
      · refine bindOk (a := .int ((t.length + 1 : Nat) : Int)) ?_ rfl
        refine bindOk (a := .int t.length) ?_ ?_
        · exact hlen
        · rfl
      · exact hq
    · refine so_forL (fun p env => ∃ j7 j10, env = wEnv ns a b rest half ds es f j7 t j10) ⟨_, _, rfl⟩ (fun p k q env e h => ?_) (fun env h => h)
      obtain ⟨j7, j10, ee⟩ := h
      have hk : k ≤ t.length := by
        have : k ∈ List.range (t.length + 1) := by rw [e]; simp
        have := List.mem_range.mp this
        omega
      have fin : ∀ env : Env, (∃ j10, env = wEnv ns a b rest half ds es f j7 t j10) → ∃ j7 j10, env = wEnv ns a b rest half ds es f j7 t j10 := fun env h => ⟨j7, h⟩
      exact (law_step w hf g small hk ht ee).mono fin (fun _ q => q) (fun _ q => q) fin (fun _ _ q => q)
  · intro env _
    exact so_ret rfl rfl
end
end Pu.k29

namespace Pu.k29
open PySem PySem.Spec PyProof.Rows L2 Pu
theorem pick2 {x y c : Int} : ∃ z, (z = x ∨ z = y) ∧ ixG (.lst [.int x, .int y]) (.int (c % 2)) = .ok (.int z) := by
  rcases (show c % 2 = 0 ∨ c % 2 = 1 by omega) with h | h
  · exact ⟨x, .inl rfl, by rw [h]; exact ixl_ok (by simp)⟩
  · exact ⟨y, .inr rfl, by rw [h]; exact ixl_ok (by simp)⟩
theorem cut_len {xs : List Int} {lo hi : Option Int} : (cutL xs lo hi).length ≤ xs.length := by
  unfold cutL
  rw [List.length_take, List.length_drop]; omega
theorem law_true (ns : List Int) (h : ns.length ≤ 63) : m_law [.scr ns] = .ok (.bl true) := by
  have hbig : (100000 : Nat) ≤ sizeLine := small_line (by decide)
  apply eq_of_ro
  unfold m_law
  rw [mden_at (by rfl), ro_end]
  show So (den_law [some (.scr ns), none, none, none, none, none, none, none, none, none, none]) _ _ _ _ _
  unfold den_law
  have c2 : ∀ z : Int, CDivW z 2 := fun z => cdiv (by decide) (by decide)
  have m2 : ∀ z : Int, modI (.int z) (.int 2) = .ok (.int (z % 2)) := fun z => mod_ok (by decide)
  obtain ⟨z1, hz1, p1⟩ := pick2 (x := 5) (y := 40) (c := cell ns 0)
  obtain ⟨z2, hz2, p2⟩ := pick2 (x := 4) (y := 94) (c := cell ns 1)
  have q1 : (0 : Int) < z1 := by omega
  have q2 : (0 : Int) < z2 := by omega
  obtain ⟨many, hmany⟩ : ∃ m, m = 1 + cell ns 0 / 2 % z1 := ⟨_, rfl⟩
  obtain ⟨few, hfew⟩ : ∃ m, m = 1 + cell ns 1 / 2 % z2 := ⟨_, rfl⟩
  have b1 := emod_in (a := cell ns 0 / 2) q1
  have b2 := emod_in (a := cell ns 1 / 2) q2
  obtain ⟨rest, hrest⟩ : ∃ r, r = cutL ns (some 3) (some 303) := ⟨_, rfl⟩
  have hrl : rest.length ≤ 63 := by rw [hrest]; exact Nat.le_trans cut_len h
  obtain ⟨half, hhalf⟩ : ∃ x, x = cell ns 2 % ((rest.length : Int) + 1) := ⟨_, rfl⟩
  have b3 := emod_in (a := cell ns 2) (show (0 : Int) < (rest.length : Int) + 1 by omega)
  have hcut : slO (.lst (rest.map D.int)) none (some half) = .ok (.lst ((cutL rest none (some half)).map D.int)) := by
    rw [cutl_ok (by rw [cut_mapI]; exact flatL_ints), cut_mapI]
  have hcl : (cutL rest none (some half)).length ≤ 1000 := Nat.le_trans cut_len (by omega)
  refine so_asg (d := .int many) ?_ ?_
  · simp only [getV_succ, getV_zero, ok_bind, m_cell0, div_ok (c2 _), m2, lst2_ok, p1, mod_ok q1, addG_int]
    rw [hmany]
  refine so_asg (d := .int few) ?_ ?_
  · simp only [List.set, getV_succ, getV_zero, ok_bind, m_cell1, div_ok (c2 _), m2, lst2_ok, p2, mod_ok q2, addG_int]
    rw [hfew]
  refine so_asg (d := .lst (rest.map D.int)) ?_ ?_
  · simp only [List.set, getV_succ, getV_zero, ok_bind, show asI (.int 3) = .ok (some 3) from rfl, show asI (.int 303) = .ok (some 303) from rfl, cutn_ok]
    rw [hrest]
  refine so_asg (d := .int half) ?_ ?_
  · have hlen : lenG (.lst (rest.map D.int)) = .ok (.int rest.length) := by
      show R.ok (D.int ((rest.map D.int).length : Nat)) = _
      rw [List.length_map]
    simp only [List.set, getV_succ, getV_zero, ok_bind, m_cell2, hlen, addG_int, mod_ok (show (0 : Int) < (rest.length : Int) + 1 by omega)]
    rw [hhalf]
  obtain ⟨ds1, es1, h1, w1⟩ := m_house (cells := cutL rest none (some half)) (many := many) (first := cell ns 1 / 188 % 94) (few := few) (by omega) (by omega) (by omega) (by omega) hcl
  obtain ⟨ds2, es2, h2, w2⟩ := m_runs (cells := cutL rest none (some half)) (many := 1 + many % 12) (by omega) (by omega) hcl
  refine so_asg (d := encH ds1 es1) ?_ ?_
  · simp only [List.set, getV_succ, getV_zero, ok_bind, m_cell1, show asI (.int half) = .ok (some half) from rfl, hcut, div_ok (cdiv (show (0 : Int) < 188 by decide) (by decide)), mod_ok (show (0 : Int) < 94 by decide), h1]
  refine so_mid (fun env => ∃ mm ds es, WF mm ds es ∧ env = [some (.scr ns), some (.int many), some (.int few), some (.lst (rest.map D.int)), some (.int half), some (encH ds es), none, none, none, none, none]) ?_ ?_
  · refine so_test0 (b := decide (cell ns 1 / 17672 % 3 = 1)) ?_ (fun _ => ?_) (fun _ => so_next ⟨_, _, _, w1, rfl⟩)
    · simp only [List.set, getV_succ, getV_zero, ok_bind, m_cell1, div_ok (cdiv (show (0 : Int) < 17672 by decide) (by decide)), mod_ok (show (0 : Int) < 3 by decide), eq_int', asB_bl]
    · refine so_asg0 (d := encH ds2 es2) ?_ ⟨_, _, _, w2, rfl⟩
      simp only [List.set, getV_succ, getV_zero, ok_bind, show asI (.int half) = .ok (some half) from rfl, hcut, mod_ok (show (0 : Int) < 12 by decide), addG_int, h2]
  · intro env hE
    obtain ⟨mm, ds, es, w, ee⟩ := hE
    exact law_rest w (by omega) (by omega) ee
end Pu.k29

namespace Pu.k29
open PySem PySem.Spec PyProof.Rows L2 Pu
def d_door_to : He.DefD := ⟨("door_to", none), "door_to", "door_to", defArgs (top 1), defBody (top 1), defScope (top 1), [], []⟩
def d_goes : He.DefD := ⟨("goes", none), "goes", "goes", defArgs (top 2), defBody (top 2), defScope (top 2), [], []⟩
def d_near_end : He.DefD := ⟨("near_end", none), "near_end", "near_end", defArgs (top 4), defBody (top 4), defScope (top 4), [], []⟩
def d_depths : He.DefD := ⟨("depths", none), "depths", "depths", defArgs (top 5), defBody (top 5), defScope (top 5), [], []⟩
def d_nearer_door : He.DefD := ⟨("nearer_door", none), "nearer_door", "nearer_door", defArgs (top 6), defBody (top 6), defScope (top 6), [], []⟩
def d_tail : He.DefD := ⟨("tail", none), "tail", "tail", defArgs (top 7), defBody (top 7), defScope (top 7), [], []⟩
def d__law_cell_at : He.DefD := ⟨("_law_cell_at", none), "_law_cell_at", "_law_cell_at", defArgs (top 9), defBody (top 9), defScope (top 9), [], []⟩
def d__law_whole : He.DefD := ⟨("_law_whole", none), "_law_whole", "_law_whole", defArgs (top 10), defBody (top 10), defScope (top 10), [], []⟩
def d__law_sign : He.DefD := ⟨("_law_sign", none), "_law_sign", "_law_sign", defArgs (top 11), defBody (top 11), defScope (top 11), [], []⟩
def d__law_house : He.DefD := ⟨("_law_house", none), "_law_house", "_law_house", defArgs (top 12), defBody (top 12), defScope (top 12), [], []⟩
def d__law_runs : He.DefD := ⟨("_law_runs", none), "_law_runs", "_law_runs", defArgs (top 13), defBody (top 13), defScope (top 13), [], []⟩
def d__law_door : He.DefD := ⟨("_law_door", none), "_law_door", "_law_door", defArgs (top 14), defBody (top 14), defScope (top 14), [], []⟩
def d__law_text : He.DefD := ⟨("_law_text", none), "_law_text", "_law_text", defArgs (top 15), defBody (top 15), defScope (top 15), [], []⟩
def d__law_deep : He.DefD := ⟨("_law_deep", none), "_law_deep", "_law_deep", defArgs (top 16), defBody (top 16), defScope (top 16), [], []⟩
def d__law_first : He.DefD := ⟨("_law_first", none), "_law_first", "_law_first", defArgs (top 17), defBody (top 17), defScope (top 17), [], []⟩
def d__law_tail : He.DefD := ⟨("_law_tail", none), "_law_tail", "_law_tail", defArgs (top 18), defBody (top 18), defScope (top 18), [], []⟩
def d_law : He.DefD := ⟨("law", none), "law", "law", defArgs (top 19), defBody (top 19), defScope (top 19), [], []⟩
def fn : List He.DefD := [d_door_to, d_goes, d_near_end, d_depths, d_nearer_door, d_tail, d__law_cell_at, d__law_whole, d__law_sign, d__law_house, d__law_runs, d__law_door, d__law_text, d__law_deep, d__law_first, d__law_tail, d_law]
def fa : List He.Fa := [.glo "door_to", .glo "goes", .glo "near_end", .glo "depths", .glo "nearer_door", .glo "tail", .glo "_law_cell_at", .glo "_law_whole", .glo "_law_sign", .glo "_law_house", .glo "_law_runs", .glo "_law_door", .glo "_law_text", .glo "_law_deep", .glo "_law_first", .glo "_law_tail", .glo "law", .free "bool", .free "enumerate", .free "int", .free "isinstance", .free "len", .free "list", .free "min", .free "range", .free "sorted", .free "str", .free "tuple"]
theorem tx_ok {K : PySem.W.Frag} {h : Heap} {mg : Str → Option Value} (X : K.In h) (G : h.Ns mainGlobals mg) (c : He.SaysD fa fn K) : Tx K mg where
  fun_door_to := c.def_ 0 (d := d_door_to) rfl
  g_door_to := He.glo_ok X G (c.fact 0 (f := .glo "door_to") rfl)
  fun_goes := c.def_ 1 (d := d_goes) rfl
  g_goes := He.glo_ok X G (c.fact 1 (f := .glo "goes") rfl)
  fun_near_end := c.def_ 2 (d := d_near_end) rfl
  g_near_end := He.glo_ok X G (c.fact 2 (f := .glo "near_end") rfl)
  fun_depths := c.def_ 3 (d := d_depths) rfl
  g_depths := He.glo_ok X G (c.fact 3 (f := .glo "depths") rfl)
  fun_nearer_door := c.def_ 4 (d := d_nearer_door) rfl
  g_nearer_door := He.glo_ok X G (c.fact 4 (f := .glo "nearer_door") rfl)
  fun_tail := c.def_ 5 (d := d_tail) rfl
  g_tail := He.glo_ok X G (c.fact 5 (f := .glo "tail") rfl)
  fun__law_cell_at := c.def_ 6 (d := d__law_cell_at) rfl
  g__law_cell_at := He.glo_ok X G (c.fact 6 (f := .glo "_law_cell_at") rfl)
  fun__law_whole := c.def_ 7 (d := d__law_whole) rfl
  g__law_whole := He.glo_ok X G (c.fact 7 (f := .glo "_law_whole") rfl)
  fun__law_sign := c.def_ 8 (d := d__law_sign) rfl
  g__law_sign := He.glo_ok X G (c.fact 8 (f := .glo "_law_sign") rfl)
  fun__law_house := c.def_ 9 (d := d__law_house) rfl
  g__law_house := He.glo_ok X G (c.fact 9 (f := .glo "_law_house") rfl)
  fun__law_runs := c.def_ 10 (d := d__law_runs) rfl
  g__law_runs := He.glo_ok X G (c.fact 10 (f := .glo "_law_runs") rfl)
  fun__law_door := c.def_ 11 (d := d__law_door) rfl
  g__law_door := He.glo_ok X G (c.fact 11 (f := .glo "_law_door") rfl)
  fun__law_text := c.def_ 12 (d := d__law_text) rfl
  g__law_text := He.glo_ok X G (c.fact 12 (f := .glo "_law_text") rfl)
  fun__law_deep := c.def_ 13 (d := d__law_deep) rfl
  g__law_deep := He.glo_ok X G (c.fact 13 (f := .glo "_law_deep") rfl)
  fun__law_first := c.def_ 14 (d := d__law_first) rfl
  g__law_first := He.glo_ok X G (c.fact 14 (f := .glo "_law_first") rfl)
  fun__law_tail := c.def_ 15 (d := d__law_tail) rfl
  g__law_tail := He.glo_ok X G (c.fact 15 (f := .glo "_law_tail") rfl)
  fun_law := c.def_ 16 (d := d_law) rfl
  g_law := He.glo_ok X G (c.fact 16 (f := .glo "law") rfl)
  free_bool := He.free_ok X G (c.fact 17 (f := .free "bool") rfl)
  free_enumerate := He.free_ok X G (c.fact 18 (f := .free "enumerate") rfl)
  free_int := He.free_ok X G (c.fact 19 (f := .free "int") rfl)
  free_isinstance := He.free_ok X G (c.fact 20 (f := .free "isinstance") rfl)
  free_len := He.free_ok X G (c.fact 21 (f := .free "len") rfl)
  free_list := He.free_ok X G (c.fact 22 (f := .free "list") rfl)
  free_min := He.free_ok X G (c.fact 23 (f := .free "min") rfl)
  free_range := He.free_ok X G (c.fact 24 (f := .free "range") rfl)
  free_sorted := He.free_ok X G (c.fact 25 (f := .free "sorted") rfl)
  free_str := He.free_ok X G (c.fact 26 (f := .free "str") rfl)
  free_tuple := He.free_ok X G (c.fact 27 (f := .free "tuple") rfl)
def loose0 : List Str := ["__name__", "door_to", "goes", "near_end", "depths", "nearer_door", "tail", "_law_cell_at", "_law_whole", "_law_sign", "_law_house", "_law_runs", "_law_door", "_law_text", "_law_deep", "_law_first", "_law_tail"]
def loose : List Str := loose0
abbrev R : PySem.W.OpenRow := PySem.W.OpenLaw.row PySem.Challenge.rw_blotsure_k29_depths_and_tails
abbrev hk : PySem.W.Hook := He.hookD 4 fa fn
def ob (s : PySem.W.SharedT) : He.AlD := He.obsDG 4 fa fn (HandSHeadRun.getT s)
theorem ob_eq (s : PySem.W.SharedT) : ob s = hk.obs s.abs := He.obsDG_eq (HandSHeadRun.getT_eq s)
theorem run (w : World) : HandSHeadRun.RunEq R (PySem.W.view R.prog [19]) hk ob 4000 loose w := by
  intro os
  kernel_rfl
end Pu.k29
open PySem PySem.W PySem.Calls PyProof.Rows
theorem PySem.Challenge.cw_blotsure_k29_depths_and_tails_holds : PySem.Challenge.rw_blotsure_k29_depths_and_tails.Holds := by
  w_on; o_law
  refine HandSHeadRun.head_any (r := OpenLaw.row PySem.Challenge.rw_blotsure_k29_depths_and_tails) (q := view (OpenLaw.row PySem.Challenge.rw_blotsure_k29_depths_and_tails).prog [19]) (H := Pu.k29.hk) (ob := Pu.k29.ob) (M := 4000) (loose := Pu.k29.loose) (d := HandSHeadRun.topDef (OpenLaw.row PySem.Challenge.rw_blotsure_k29_depths_and_tails).prog 19) (kwd := []) Pu.k29.ob_eq
    (by kernel_rfl) (fun s => by kernel_rfl) Pu.k29.run (by kernel_rfl) (by kernel_rfl) (by kernel_rfl) (by rfl) (by first | assumption | decide +kernel) (by decide +kernel) ⟨rfl, rfl, rfl, rfl, rfl, by decide +kernel⟩ ?hw ?hc
  case hw => w_witness2
  case hc =>
    refine Pu.walk_law (l := PySem.Challenge.rw_blotsure_k29_depths_and_tails) (n := 63) (k := 4) (x := "script") rfl (by decide) (by kernel_rfl) ⟨rfl, by decide, by decide⟩ ?F
    intro w mg fa h Y G hmg0
    obtain ⟨K, KX, c⟩ := Y
    have T := Pu.k29.tx_ok KX G c
    have hmg : mg ("law" : PySem.Str) = some (.ref fa) := by
      have e : (HandSHeadRun.topDef (OpenLaw.row PySem.Challenge.rw_blotsure_k29_depths_and_tails).prog 19).name = ("law" : PySem.Str) := by kernel_rfl
      rw [← e]
      exact hmg0
    have e := hmg.symm.trans T.g_law
    cases e
    obtain ⟨fd, F⟩ := T.fun_law
    have b := L2.FunD.bindsA (ps := ["script"]) F fun _ _ _ _ _ _ us hl => match us, hl with | [_], _ => rfl
    exact ⟨K, fd, _, KX, fun s v => b s [v] rfl, fun H a ns hl ho hS => Pu.law_sp (Pu.k29.law_true ns hl) ho hS, fun base _ _ => Pu.k29.ok_law T F⟩
