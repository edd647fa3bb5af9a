import PyProof.Rows.All
import Wide.All
import OpenK.AllK
import Wide.FinOn
import HandS.ForMost
import HandS.Exc
import KE.DataIsa
import KE.DataMinMax
import KE.DataAny
import KE.DataFind
import KE.SortData
import KE.Datum
import HandS.IsInst
import HandS.Wide
import HandS.TupLe
import HandS.TupLen
import KE.KDictCopyH
import KE.KDictSum
import PyProof.TupleOfSeq
import HandS.Flow
import HandS.Walk
import HandS.NoneIn
import HandS.TryOnly
import HandS.Zip
import HandS.Rev
import HandS.RevRange
import HandS.Words
import HandS.WordsExc
import HandS.Small
import HandS.SetKeys
import HandS.Remove
import KE.KTup
import HandS.Conv
import HandS.TupAny
import HandS.Style
import HandS.Codes
import HandS.Ends
import HandS.More
import PySem.Challenge.RW_partwood_k59_hueings_looked_at
set_option Elab.async false
set_option linter.all false
set_option maxRecDepth 100000
set_option maxHeartbeats 1000000
namespace PX
open PySem PySem.Spec PyProof.Rows L2

/-! ### data: what a Python value is, as a tree; o: whether the thing at this node is still one's own (may be changed) -/
inductive D where
  | non | bl (b : Bool) | int (i : Int) | str (s : Str)
  | tup (xs : List D) | lst (o : Bool) (xs : List D) | dic (o t : Bool) (ks xs : List D) | ins (o : Bool) (c : Nat) (ns : List Str) (xs : List D)
  | exc (c : Nat)
  /-- a tuple of the module; a built-in type; a class of the program -/
  | ktp (xs : List D) | klst (xs : List D) | ty (n : String) | cls (c : Nat)
deriving Inhabited

mutual
/-- given up: nobody changes it any more -/
def fz : D → D
  | .tup xs => .tup (fzs xs)
  | .lst _ xs => .lst false (fzs xs)
  | .dic _ t ks xs => .dic false t ks (fzs xs)
  | .ins _ c ns xs => .ins false c ns (fzs xs)
  | .non => .non | .bl b => .bl b | .int i => .int i | .str s => .str s | .exc c => .exc c | .ty n => .ty n | .cls c => .cls c | .ktp xs => .ktp (fzs xs) | .klst xs => .klst (fzs xs)
def fzs : List D → List D
  | [] => []
  | d :: ds => fz d :: fzs ds
end
theorem fzs_map : ∀ ds, fzs ds = ds.map fz
  | [] => rfl
  | d :: ds => by simp only [fzs, List.map_cons, fzs_map ds]
mutual
/-- nothing in it is one's own -/
def cln : D → Bool
  | .tup xs => clns xs
  | .ktp xs => clns xs
  | .klst xs => clns xs
  | .lst o xs => !o && clns xs
  | .dic o _ _ xs => !o && clns xs
  | .ins o _ _ xs => !o && clns xs
  | _ => true
def clns : List D → Bool
  | [] => true
  | d :: ds => cln d && clns ds
end
mutual
theorem fz_cln : ∀ d, cln (fz d) = true
  | .tup xs => by simp only [fz, cln]; exact fzs_cln xs
  | .ktp xs => by simp only [fz, cln]; exact fzs_cln xs
  | .klst xs => by simp only [fz, cln]; exact fzs_cln xs
  | .lst _ xs => by simp only [fz, cln]; rw [fzs_cln xs]; rfl
  | .dic _ _ _ xs => by simp only [fz, cln]; rw [fzs_cln xs]; rfl
  | .ins _ _ _ xs => by simp only [fz, cln]; rw [fzs_cln xs]; rfl
  | .non => rfl | .bl _ => rfl | .int _ => rfl | .str _ => rfl | .exc _ => rfl | .ty _ => rfl | .cls _ => rfl
theorem fzs_cln : ∀ ds, clns (fzs ds) = true
  | [] => rfl
  | d :: ds => by simp only [fzs, clns, fz_cln d, fzs_cln ds]; rfl
end
mutual
theorem fz_id : ∀ d, cln d = true → fz d = d
  | .tup xs, h => by simp only [cln] at h; simp only [fz, fzs_id xs h]
  | .ktp xs, h => by simp only [cln] at h; simp only [fz, fzs_id xs h]
  | .klst xs, h => by simp only [cln] at h; simp only [fz, fzs_id xs h]
  | .lst o xs, h => by simp only [cln, Bool.and_eq_true, Bool.not_eq_true'] at h; simp only [fz, fzs_id xs h.2, h.1]
  | .dic o t ks xs, h => by simp only [cln, Bool.and_eq_true, Bool.not_eq_true'] at h; simp only [fz, fzs_id xs h.2, h.1]
  | .ins o c ns xs, h => by simp only [cln, Bool.and_eq_true, Bool.not_eq_true'] at h; simp only [fz, fzs_id xs h.2, h.1]
  | .non, _ => rfl | .bl _, _ => rfl | .int _, _ => rfl | .str _, _ => rfl | .exc _, _ => rfl | .ty _, _ => rfl | .cls _, _ => rfl
theorem fzs_id : ∀ ds, clns ds = true → fzs ds = ds
  | [], _ => rfl
  | d :: ds, h => by simp only [clns, Bool.and_eq_true] at h; simp only [fzs, fz_id d h.1, fzs_id ds h.2]
end
theorem clns_mem : ∀ {ds : List D} {d : D}, clns ds = true → d ∈ ds → cln d = true
  | e :: ds, d, h, m => by
    simp only [clns, Bool.and_eq_true] at h
    rcases List.mem_cons.mp m with rfl | m
    · exact h.1
    · exact clns_mem h.2 m

/-- a dict's key as data -/
def kD : Key → D
  | .inl i => .int i
  | .inr s => .str s
/-- a dict's object: t: its keys are tuples -/
def DicOk (t : Bool) (ks : List D) (u : HO) (xs : List V) : Prop := match t with
  | false => ∃ kv : List (Key × V), u = .dK kv ∧ ks = kv.map (fun p => kD p.1) ∧ xs = kv.map (·.2) ∧ (kv.map (·.1)).Nodup
  | true => ∃ kv : List (List Key × V), u = .dT kv ∧ ks = kv.map (fun p => .tup (p.1.map kD)) ∧ xs = kv.map (·.2) ∧ (kv.map (·.1)).Nodup
theorem DicOk.ntup {t : Bool} {ks : List D} {u : HO} {xs : List V} (k : DicOk t ks u xs) : ∀ ys, u ≠ .tup ys := by
  rintro ys rfl
  cases t with
  | false => obtain ⟨_, z, _⟩ := k; cases z
  | true => obtain ⟨_, z, _⟩ := k; cases z

/-- the classes' addresses -/
abbrev Clss := Nat → Addr
section
variable (K : PySem.W.Frag) (cl : Clss) (G H : Hp)
mutual
/-- v is the tree d in the heap: what is given up stands in G, what is one's own in H (at the addresses fp), not in G -/
def Own : D → V → List Addr → Prop
  | .non, v, fp => v = .non ∧ fp = []
  | .bl b, v, fp => v = .bl b ∧ fp = []
  | .int i, v, fp => v = .int i ∧ fp = []
  | .str s, v, fp => v = .str s ∧ fp = []
  | .exc _, _, _ => False
  | .ty n, v, fp => v = .ty n ∧ fp = []
  | .cls c, v, fp => v = .ref (cl c) ∧ fp = []
  | .tup ds, v, fp => ∃ a xs, v = .ref a ∧ G a = some (.tup xs) ∧ Owns ds xs fp
  | .ktp ds, v, fp => ∃ a xs, v = .ref a ∧ SqT K G a xs ∧ Owns ds xs fp
  | .klst ds, v, fp => ∃ a xs, v = .ref a ∧ SqL K G a xs ∧ Owns ds xs fp
  | .lst true ds, v, fp => ∃ a xs f, v = .ref a ∧ H a = some (.lst xs) ∧ G a = none ∧ fp = a :: f ∧ Owns ds xs f
  | .lst false ds, v, fp => ∃ a xs, v = .ref a ∧ G a = some (.lst xs) ∧ Owns ds xs fp
  | .dic true t ks ds, v, fp => ∃ a u xs f, v = .ref a ∧ H a = some u ∧ G a = none ∧ DicOk t ks u xs ∧ fp = a :: f ∧ Owns ds xs f
  | .dic false t ks ds, v, fp => ∃ a u xs, v = .ref a ∧ Rd G a u ∧ DicOk t ks u xs ∧ Owns ds xs fp
  | .ins true c ns ds, v, fp => ∃ a dx xs f, v = .ref a ∧ H a = some (.ins (cl c) dx (ns.zip xs)) ∧ G a = none ∧ ns.length = xs.length ∧ fp = a :: f ∧ Owns ds xs f
  | .ins false c ns ds, v, fp => ∃ a dx xs, v = .ref a ∧ Rd G a (.ins (cl c) dx (ns.zip xs)) ∧ ns.length = xs.length ∧ Owns ds xs fp
def Owns : List D → List V → List Addr → Prop
  | [], xs, fp => xs = [] ∧ fp = []
  | d :: ds, xs, fp => ∃ x r f1 f2, xs = x :: r ∧ fp = f1 ++ f2 ∧ Own d x f1 ∧ Owns ds r f2
end
end
/-- no dict -/
def noD : HO → Prop
  | .dK _ => False
  | .dT _ => False
  | .frz _ _ => False
  | _ => True
/-- G' has all that G has -/
structure Ge (G G' : Hp) : Prop where
  rd : ∀ a u, Rd G a u → Rd G' a u
  ex : ∀ a u, noD u → G a = some u → G' a = some u
theorem Ge.refl (G : Hp) : Ge G G := ⟨fun _ _ h => h, fun _ _ _ h => h⟩
theorem Ge.trans {A B C : Hp} (h : Ge A B) (k : Ge B C) : Ge A C := ⟨fun a u x => k.rd a u (h.rd a u x), fun a u n x => k.ex a u n (h.ex a u n x)⟩
theorem Ge.tp {G G' : Hp} (h : Ge G G') (a : Addr) (xs : List V) (e : G a = some (.tup xs)) : G' a = some (.tup xs) := h.ex a _ trivial e
theorem Ge.ls {G G' : Hp} (h : Ge G G') {a : Addr} {xs : List V} (e : G a = some (.lst xs)) : G' a = some (.lst xs) := h.ex a _ trivial e
theorem Ge.seqL {K : PySem.W.Frag} {G G' : Hp} (h : Ge G G') {a : Addr} {xs : List V} (x : SqL K G a xs) : SqL K G' a xs := x.imp (h.rd _ _) id
theorem Ge.seqT {K : PySem.W.Frag} {G G' : Hp} (h : Ge G G') {a : Addr} {xs : List V} (x : SqT K G a xs) : SqT K G' a xs := x.imp (h.rd _ _) id
theorem Ge.of {G G' : Hp} (h : ∀ a o, G a = some o → G' a = some o) : Ge G G' := ⟨fun a u x => x.imp (h a _) fun ⟨o, e⟩ => ⟨o, h a _ e⟩, fun a u _ e => h a _ e⟩
theorem ge_upd {G : Hp} {p : Addr} {o : HO} (h : G p = none) : Ge G (upd G p o) := .of fun a u e => by
  rw [upd_ne fun z => by rw [z, h] at e; cases e]
  exact e
def Sub (G H : Hp) : Prop := ∀ a o, G a = some o → H a = some o
theorem Sub.rd {G H : Hp} (s : Sub G H) {a : Addr} {u : HO} (x : Rd G a u) : Rd H a u := x.imp (s _ _) fun ⟨o, e⟩ => ⟨o, s _ _ e⟩
theorem Sub.seqL {K : PySem.W.Frag} {G H : Hp} (s : Sub G H) {a : Addr} {xs : List V} (x : SqL K G a xs) : SqL K H a xs := x.imp s.rd id
theorem Sub.seqT {K : PySem.W.Frag} {G H : Hp} (s : Sub G H) {a : Addr} {xs : List V} (x : SqT K G a xs) : SqT K H a xs := x.imp s.rd id

section
variable {K : PySem.W.Frag} {cl : Clss} {G H G' H' : Hp}
mutual
/-- what is one's own stands in H and not in G -/
theorem Own.at : ∀ {d : D} {v : V} {fp : List Addr}, Own K cl G H d v fp → ∀ a ∈ fp, (∃ o, H a = some o ∧ ∀ xs, o ≠ .tup xs) ∧ G a = none
  | .non, _, _, h, a, m => by obtain ⟨_, rfl⟩ := h; cases m
  | .bl _, _, _, h, a, m => by obtain ⟨_, rfl⟩ := h; cases m
  | .int _, _, _, h, a, m => by obtain ⟨_, rfl⟩ := h; cases m
  | .str _, _, _, h, a, m => by obtain ⟨_, rfl⟩ := h; cases m
  | .ty _, _, _, h, a, m => by obtain ⟨_, rfl⟩ := h; cases m
  | .cls _, _, _, h, a, m => by obtain ⟨_, rfl⟩ := h; cases m
  | .exc _, _, _, h, a, m => h.elim
  | .tup _, _, _, h, a, m => by obtain ⟨_, _, _, _, h⟩ := h; exact Owns.at h a m
  | .ktp _, _, _, h, a, m => by obtain ⟨_, _, _, _, h⟩ := h; exact Owns.at h a m
  | .klst _, _, _, h, a, m => by obtain ⟨_, _, _, _, h⟩ := h; exact Owns.at h a m
  | .lst true _, _, _, h, a, m => by
    obtain ⟨b, xs, f, _, e, n, rfl, h⟩ := h
    rcases List.mem_cons.mp m with rfl | m
    · exact ⟨⟨_, e, fun _ z => nomatch z⟩, n⟩
    · exact Owns.at h a m
  | .lst false _, _, _, h, a, m => by obtain ⟨_, _, _, _, h⟩ := h; exact Owns.at h a m
  | .dic true _ _ _, _, _, h, a, m => by
    obtain ⟨b, u, xs, f, _, e, n, k, rfl, h⟩ := h
    rcases List.mem_cons.mp m with rfl | m
    · exact ⟨⟨_, e, k.ntup⟩, n⟩
    · exact Owns.at h a m
  | .dic false _ _ _, _, _, h, a, m => by obtain ⟨_, _, _, _, _, _, h⟩ := h; exact Owns.at h a m
  | .ins true _ _ _, _, _, h, a, m => by
    obtain ⟨b, dx, xs, f, _, e, n, k, rfl, h⟩ := h
    rcases List.mem_cons.mp m with rfl | m
    · exact ⟨⟨_, e, fun _ z => nomatch z⟩, n⟩
    · exact Owns.at h a m
  | .ins false _ _ _, _, _, h, a, m => by obtain ⟨_, _, _, _, _, _, h⟩ := h; exact Owns.at h a m
theorem Owns.at : ∀ {ds : List D} {xs : List V} {fp : List Addr}, Owns K cl G H ds xs fp → ∀ a ∈ fp, (∃ o, H a = some o ∧ ∀ xs, o ≠ .tup xs) ∧ G a = none
  | [], _, _, h, a, m => by obtain ⟨_, rfl⟩ := h; cases m
  | _ :: _, _, _, h, a, m => by
    obtain ⟨x, r, f1, f2, rfl, rfl, h1, h2⟩ := h
    rcases List.mem_append.mp m with m | m
    · exact Own.at h1 a m
    · exact Owns.at h2 a m
end
mutual
/-- it stays, where G grows and what is one's own is left alone -/
theorem Own.mono (g : Ge G G') : ∀ {d : D} {v : V} {fp : List Addr}, Own K cl G H d v fp → (∀ a ∈ fp, H' a = H a ∧ G' a = none) → Own K cl G' H' d v fp
  | .non, _, _, h, k => h
  | .bl _, _, _, h, k => h
  | .int _, _, _, h, k => h
  | .str _, _, _, h, k => h
  | .ty _, _, _, h, k => h
  | .cls _, _, _, h, k => h
  | .exc _, _, _, h, k => h.elim
  | .tup _, _, _, h, k => by obtain ⟨a, xs, e, q, h⟩ := h; exact ⟨a, xs, e, g.tp _ _ q, Owns.mono g h k⟩
  | .ktp _, _, _, h, k => by obtain ⟨a, xs, e, q, h⟩ := h; exact ⟨a, xs, e, g.seqT q, Owns.mono g h k⟩
  | .klst _, _, _, h, k => by obtain ⟨a, xs, e, q, h⟩ := h; exact ⟨a, xs, e, g.seqL q, Owns.mono g h k⟩
  | .lst true _, _, _, h, k => by
    obtain ⟨b, xs, f, e1, e, n, rfl, h⟩ := h
    exact ⟨b, xs, f, e1, (k b (.head _)).1.trans e, (k b (.head _)).2, rfl, Owns.mono g h fun a m => k a (.tail _ m)⟩
  | .lst false _, _, _, h, k => by obtain ⟨a, xs, e, q, h⟩ := h; exact ⟨a, xs, e, g.ls q, Owns.mono g h k⟩
  | .dic true _ _ _, _, _, h, k => by
    obtain ⟨b, u, xs, f, e1, e, n, kk, rfl, h⟩ := h
    exact ⟨b, u, xs, f, e1, (k b (.head _)).1.trans e, (k b (.head _)).2, kk, rfl, Owns.mono g h fun a m => k a (.tail _ m)⟩
  | .dic false _ _ _, _, _, h, k => by obtain ⟨a, u, xs, e, q, kk, h⟩ := h; exact ⟨a, u, xs, e, g.rd _ _ q, kk, Owns.mono g h k⟩
  | .ins true _ _ _, _, _, h, k => by
    obtain ⟨b, dx, xs, f, e1, e, n, kk, rfl, h⟩ := h
    exact ⟨b, dx, xs, f, e1, (k b (.head _)).1.trans e, (k b (.head _)).2, kk, rfl, Owns.mono g h fun a m => k a (.tail _ m)⟩
  | .ins false _ _ _, _, _, h, k => by obtain ⟨a, dx, xs, e, q, kk, h⟩ := h; exact ⟨a, dx, xs, e, g.rd _ _ q, kk, Owns.mono g h k⟩
theorem Owns.mono (g : Ge G G') : ∀ {ds : List D} {xs : List V} {fp : List Addr}, Owns K cl G H ds xs fp → (∀ a ∈ fp, H' a = H a ∧ G' a = none) → Owns K cl G' H' ds xs fp
  | [], _, _, h, k => h
  | _ :: _, _, _, h, k => by
    obtain ⟨x, r, f1, f2, rfl, rfl, h1, h2⟩ := h
    exact ⟨x, r, f1, f2, rfl, rfl, Own.mono g h1 fun a m => k a (List.mem_append_left _ m), Owns.mono g h2 fun a m => k a (List.mem_append_right _ m)⟩
end
mutual
theorem Own.clean : ∀ {d : D} {v : V} {fp : List Addr}, cln d = true → Own K cl G H d v fp → fp = []
  | .non, _, _, c, h => h.2
  | .bl _, _, _, c, h => h.2
  | .int _, _, _, c, h => h.2
  | .str _, _, _, c, h => h.2
  | .ty _, _, _, c, h => h.2
  | .cls _, _, _, c, h => h.2
  | .exc _, _, _, c, h => h.elim
  | .tup _, _, _, c, h => by obtain ⟨a, xs, e, q, h⟩ := h; exact Owns.clean (by simpa only [cln] using c) h
  | .ktp _, _, _, c, h => by obtain ⟨a, xs, e, q, h⟩ := h; exact Owns.clean (by simpa only [cln] using c) h
  | .klst _, _, _, c, h => by obtain ⟨a, xs, e, q, h⟩ := h; exact Owns.clean (by simpa only [cln] using c) h
  | .lst true _, _, _, c, h => by simp [cln] at c
  | .lst false _, _, _, c, h => by obtain ⟨a, xs, e, q, h⟩ := h; exact Owns.clean (by simpa [cln] using c) h
  | .dic true _ _ _, _, _, c, h => by simp [cln] at c
  | .dic false _ _ _, _, _, c, h => by obtain ⟨a, u, xs, e, q, kk, h⟩ := h; exact Owns.clean (by simpa [cln] using c) h
  | .ins true _ _ _, _, _, c, h => by simp [cln] at c
  | .ins false _ _ _, _, _, c, h => by obtain ⟨a, dx, xs, e, q, kk, h⟩ := h; exact Owns.clean (by simpa [cln] using c) h
theorem Owns.clean : ∀ {ds : List D} {xs : List V} {fp : List Addr}, clns ds = true → Owns K cl G H ds xs fp → fp = []
  | [], _, _, c, h => h.2
  | _ :: _, _, _, c, h => by
    obtain ⟨x, r, f1, f2, rfl, rfl, h1, h2⟩ := h
    simp only [clns, Bool.and_eq_true] at c
    rw [Own.clean c.1 h1, Owns.clean c.2 h2] <;> rfl
end
/-- H's things at fp put to G -/
def fzG (G H : Hp) (fp : List Addr) : Hp := fun a => if a ∈ fp then H a else G a
theorem fzG_ge {fp : List Addr} (h : ∀ a ∈ fp, G a = none) : Ge G (fzG G H fp) := .of fun a u e => by
  unfold fzG
  rw [if_neg fun m => by rw [h a m] at e; cases e]
  exact e
mutual
theorem Own.fz_of (g : Ge G G') : ∀ {d : D} {v : V} {fp : List Addr}, Own K cl G H d v fp → (∀ a ∈ fp, G' a = H a) → Own K cl G' H' (fz d) v []
  | .non, _, _, h, k => ⟨h.1, rfl⟩
  | .bl _, _, _, h, k => ⟨h.1, rfl⟩
  | .int _, _, _, h, k => ⟨h.1, rfl⟩
  | .str _, _, _, h, k => ⟨h.1, rfl⟩
  | .ty _, _, _, h, k => ⟨h.1, rfl⟩
  | .cls _, _, _, h, k => ⟨h.1, rfl⟩
  | .exc _, _, _, h, k => h.elim
  | .tup _, _, _, h, k => by obtain ⟨a, xs, e, q, h⟩ := h; exact ⟨a, xs, e, g.tp _ _ q, Owns.fz_of g h k⟩
  | .ktp _, _, _, h, k => by obtain ⟨a, xs, e, q, h⟩ := h; exact ⟨a, xs, e, g.seqT q, Owns.fz_of g h k⟩
  | .klst _, _, _, h, k => by obtain ⟨a, xs, e, q, h⟩ := h; exact ⟨a, xs, e, g.seqL q, Owns.fz_of g h k⟩
  | .lst true _, _, _, h, k => by
    obtain ⟨b, xs, f, e1, e, n, rfl, h⟩ := h
    exact ⟨b, xs, e1, (k b (.head _)).trans e, Owns.fz_of g h fun a m => k a (.tail _ m)⟩
  | .lst false _, _, _, h, k => by obtain ⟨a, xs, e, q, h⟩ := h; exact ⟨a, xs, e, g.ls q, Owns.fz_of g h k⟩
  | .dic true _ _ _, _, _, h, k => by
    obtain ⟨b, u, xs, f, e1, e, n, kk, rfl, h⟩ := h
    exact ⟨b, u, xs, e1, .inl ((k b (.head _)).trans e), kk, Owns.fz_of g h fun a m => k a (.tail _ m)⟩
  | .dic false _ _ _, _, _, h, k => by obtain ⟨a, u, xs, e, q, kk, h⟩ := h; exact ⟨a, u, xs, e, g.rd _ _ q, kk, Owns.fz_of g h k⟩
  | .ins true _ _ _, _, _, h, k => by
    obtain ⟨b, dx, xs, f, e1, e, n, kk, rfl, h⟩ := h
    exact ⟨b, dx, xs, e1, .inl ((k b (.head _)).trans e), kk, Owns.fz_of g h fun a m => k a (.tail _ m)⟩
  | .ins false _ _ _, _, _, h, k => by obtain ⟨a, dx, xs, e, q, kk, h⟩ := h; exact ⟨a, dx, xs, e, g.rd _ _ q, kk, Owns.fz_of g h k⟩
theorem Owns.fz_of (g : Ge G G') : ∀ {ds : List D} {xs : List V} {fp : List Addr}, Owns K cl G H ds xs fp → (∀ a ∈ fp, G' a = H a) → Owns K cl G' H' (fzs ds) xs []
  | [], _, _, h, k => ⟨h.1, rfl⟩
  | _ :: _, _, _, h, k => by
    obtain ⟨x, r, f1, f2, rfl, rfl, h1, h2⟩ := h
    exact ⟨x, r, [], [], rfl, rfl, Own.fz_of g h1 fun a m => k a (List.mem_append_left _ m), Owns.fz_of g h2 fun a m => k a (List.mem_append_right _ m)⟩
end
theorem Owns.length : ∀ {ds : List D} {xs : List V} {fp : List Addr}, Owns K cl G H ds xs fp → ds.length = xs.length
  | [], _, _, h => by rw [h.1]; rfl
  | _ :: _, _, _, h => by
    obtain ⟨x, r, f1, f2, rfl, rfl, h1, h2⟩ := h
    rw [List.length_cons, List.length_cons, Owns.length h2]
theorem Owns.get : ∀ {ds : List D} {xs : List V} {fp : List Addr} {i : Nat} {d : D}, Owns K cl G H ds xs fp → ds[i]? = some d → ∃ x f, xs[i]? = some x ∧ Own K cl G H d x f ∧ ∀ a ∈ f, a ∈ fp
  | [], _, _, _, _, h, e => by simp at e
  | _ :: _, _, _, 0, d, h, e => by
    obtain ⟨x, r, f1, f2, rfl, rfl, h1, h2⟩ := h
    cases (Option.some.inj e)
    exact ⟨x, f1, rfl, h1, fun a m => List.mem_append_left _ m⟩
  | _ :: _, _, _, i + 1, d, h, e => by
    obtain ⟨x, r, f1, f2, rfl, rfl, h1, h2⟩ := h
    obtain ⟨y, f, e1, h3, m⟩ := Owns.get (i := i) h2 (by simpa using e)
    exact ⟨y, f, by simpa using e1, h3, fun a q => List.mem_append_right _ (m a q)⟩
theorem Owns.cons {d : D} {x : V} {f : List Addr} {ds : List D} {xs : List V} {fp : List Addr} (h : Own K cl G H d x f) (t : Owns K cl G H ds xs fp) : Owns K cl G H (d :: ds) (x :: xs) (f ++ fp) := ⟨x, xs, f, fp, rfl, rfl, h, t⟩
theorem Owns.append : ∀ {ds es : List D} {xs ys : List V} {f g : List Addr}, Owns K cl G H ds xs f → Owns K cl G H es ys g → Owns K cl G H (ds ++ es) (xs ++ ys) (f ++ g)
  | [], _, _, _, _, _, h, k => by obtain ⟨rfl, rfl⟩ := h; exact k
  | _ :: _, _, _, _, _, _, h, k => by
    obtain ⟨x, r, f1, f2, rfl, rfl, h1, h2⟩ := h
    rw [List.append_assoc]
    exact Owns.cons h1 (Owns.append h2 k)
theorem Owns.split : ∀ {ds es : List D} {zs : List V} {fp : List Addr}, Owns K cl G H (ds ++ es) zs fp → ∃ xs ys f g, zs = xs ++ ys ∧ fp = f ++ g ∧ Owns K cl G H ds xs f ∧ Owns K cl G H es ys g
  | [], _, zs, fp, h => ⟨[], zs, [], fp, rfl, rfl, ⟨rfl, rfl⟩, h⟩
  | _ :: _, _, _, _, h => by
    obtain ⟨x, r, f1, f2, rfl, rfl, h1, h2⟩ := h
    obtain ⟨xs, ys, f, g, rfl, rfl, h3, h4⟩ := Owns.split h2
    exact ⟨x :: xs, ys, f1 ++ f, g, rfl, by rw [List.append_assoc], Owns.cons h1 h3, h4⟩
/-- clean items by themselves -/
theorem Owns.of_clean : ∀ {ds : List D} {xs : List V} {fp : List Addr}, Owns K cl G H ds xs fp → clns ds = true → Owns K cl G H ds xs [] := fun h c => by
  have e := Owns.clean c h
  rw [e] at h
  exact h
theorem Own.of_clean {d : D} {v : V} {fp : List Addr} (h : Own K cl G H d v fp) (c : cln d = true) : Own K cl G H d v [] := by
  have e := Own.clean c h
  rw [e] at h
  exact h
/-- clean data hang on G alone -/
theorem Own.ch {d : D} {v : V} (h : Own K cl G H d v []) (g : Ge G G') : Own K cl G' H' d v [] := h.mono g fun a m => by cases m
theorem Owns.ch {ds : List D} {xs : List V} (h : Owns K cl G H ds xs []) (g : Ge G G') : Owns K cl G' H' ds xs [] := h.mono g fun a m => by cases m
end
end PX

namespace PX
open PySem PySem.Spec PyProof.Rows L2

/-! ### the states -/
abbrev Env := List (Option D)
inductive R (α : Type) where
  | ok (a : α) | ex (c : Nat)
def M (α : Type) := Env → Option (R α × Env)
instance : Monad M where
  pure a := fun Γ => some (.ok a, Γ)
  bind m f := fun Γ => match m Γ with
    | none => none
    | some (.ok a, Γ') => f a Γ'
    | some (.ex c, Γ') => some (.ex c, Γ')
theorem M.pure_run {α : Type} (a : α) (Γ : Env) : (pure a : M α) Γ = some (.ok a, Γ) := rfl
theorem M.bind_run {α β : Type} (m : M α) (f : α → M β) (Γ : Env) : (m >>= f) Γ = match m Γ with
    | none => none
    | some (.ok a, Γ') => f a Γ'
    | some (.ex c, Γ') => some (.ex c, Γ') := rfl
/-- m from Γ ends so, or raises as told -/
def Sat {α : Type} (Ex : Nat → Env → Prop) (m : M α) (Γ : Env) (k : α → Env → Prop) : Prop :=
  match m Γ with
  | none => False
  | some (.ok a, Γ') => k a Γ'
  | some (.ex c, Γ') => Ex c Γ'
section
variable {α β : Type} {Ex : Nat → Env → Prop} {Γ : Env}
theorem Sat.bind {m : M α} {f : α → M β} {k : β → Env → Prop} : Sat Ex (m >>= f) Γ k ↔ Sat Ex m Γ fun a Γ' => Sat Ex (f a) Γ' k := by
  unfold Sat
  rw [M.bind_run]
  cases m Γ with
  | none => exact Iff.rfl
  | some p =>
    obtain ⟨r, Γ'⟩ := p
    cases r <;> exact Iff.rfl
theorem Sat.pure {a : α} {k : α → Env → Prop} : Sat Ex (Pure.pure a) Γ k ↔ k a Γ := Iff.rfl
theorem Sat.imp {m : M α} {k k' : α → Env → Prop} (h : Sat Ex m Γ k) (i : ∀ a Γ', k a Γ' → k' a Γ') : Sat Ex m Γ k' := by
  unfold Sat at h ⊢
  split at h
  · exact h
  · exact i _ _ h
  · exact h
/-- from an option: nothing else happens -/
def mO {α : Type} (x : Option α) : M α := fun Γ => x.map fun a => (.ok a, Γ)
theorem Sat.mO {x : Option α} {k : α → Env → Prop} : Sat Ex (mO x) Γ k ↔ ∃ a, x = some a ∧ k a Γ := by
  unfold Sat PX.mO
  cases x with
  | none => simp
  | some a => simp
/-- what is read off the environment alone -/
abbrev PM (α : Type) := Env → Option α
def mP {α : Type} (p : PM α) : M α := fun Γ => (p Γ).map fun a => (.ok a, Γ)
theorem Sat.mP {p : PM α} {k : α → Env → Prop} : Sat Ex (mP p) Γ k ↔ ∃ a, p Γ = some a ∧ k a Γ := by
  unfold Sat PX.mP
  cases p Γ with
  | none => simp
  | some a => simp
end

/-! ### slots, temporaries -/
section
variable (K : PySem.W.Frag) (cl : Clss) (G H : Hp)
def OwnO : Option D → Option V → List Addr → Prop
  | none, _, f => f = []
  | some d, s, f => ∃ v, s = some v ∧ Own K cl G H d v f
structure OwnS (Γ : Env) (σ : L2.St) (fs : List (List Addr)) : Prop where
  l1 : Γ.length = σ.length
  l2 : fs.length = σ.length
  at_ : ∀ (i : Nat) (γ : Option D) (s : Option V) (f : List Addr), Γ[i]? = some γ → σ[i]? = some s → fs[i]? = some f → OwnO K cl G H γ s f
def OwnT : List (D × V) → List Addr → Prop
  | [], fp => fp = []
  | p :: Ts, fp => ∃ f1 f2, fp = f1 ++ f2 ∧ Own K cl G H p.1 p.2 f1 ∧ OwnT Ts f2
/-- a state: Fr what others own, Γ the slots' data, Ts what is held in between -/
structure Rel (Pn : List (Nat × Option V)) (G0 Fr : Hp) (Γ : Env) (Ts : List (D × V)) (σ : L2.St) (fs : List (List Addr)) : Prop where
  sl : OwnS K cl G H Γ σ fs
  ts : ∃ ft, OwnT K cl G H Ts ft ∧ (fs.flatten ++ ft).Nodup ∧ ∀ a o, Fr a = some o → H a = some o ∧ G a = none ∧ a ∉ fs.flatten ++ ft
  sub : Sub G H
  ge : Ge G0 G
  tg : ∀ q xs, H q = some (.tup xs) → G q = some (.tup xs)
  pn : ∀ p ∈ Pn, σ[p.1]? = some p.2
end
/-- the slots but those of W keep what they own -/
def Keep (W : List Nat) (fs fs' : List (List Addr)) (H H' : Hp) : Prop := fs'.length = fs.length ∧ ∀ j, j ∉ W → fs'[j]? = fs[j]? ∧ ∀ f, fs[j]? = some f → ∀ a ∈ f, H' a = H a
theorem Keep.refl {W : List Nat} {fs : List (List Addr)} {H : Hp} : Keep W fs fs H H := ⟨rfl, fun _ _ => ⟨rfl, fun _ _ _ _ => rfl⟩⟩
theorem Keep.trans {W : List Nat} {f1 f2 f3 : List (List Addr)} {H1 H2 H3 : Hp} (a : Keep W f1 f2 H1 H2) (b : Keep W f2 f3 H2 H3) : Keep W f1 f3 H1 H3 :=
  ⟨b.1.trans a.1, fun j hj => ⟨(b.2 j hj).1.trans (a.2 j hj).1, fun f e x m => ((b.2 j hj).2 f ((a.2 j hj).1.trans e) x m).trans ((a.2 j hj).2 f e x m)⟩⟩
theorem Keep.mono {W W' : List Nat} {fs fs' : List (List Addr)} {H H' : Hp} (k : Keep W fs fs' H H') (h : ∀ j ∈ W, j ∈ W') : Keep W' fs fs' H H' := ⟨k.1, fun j hj => k.2 j fun z => hj (h j z)⟩

section
variable {K : PySem.W.Frag} {cl : Clss} {G H G' H' : Hp} {Pn : List (Nat × Option V)} {G0 Fr : Hp} {Γ : Env} {Ts : List (D × V)} {σ : L2.St} {fs : List (List Addr)}
theorem OwnO.mono {γ : Option D} {s : Option V} {f : List Addr} (g : Ge G G') (h : OwnO K cl G H γ s f) (k : ∀ a ∈ f, H' a = H a ∧ G' a = none) : OwnO K cl G' H' γ s f := by
  cases γ with
  | none => exact h
  | some d => obtain ⟨v, e, h⟩ := h; exact ⟨v, e, h.mono g k⟩
theorem OwnO.at {γ : Option D} {s : Option V} {f : List Addr} (h : OwnO K cl G H γ s f) : ∀ a ∈ f, (∃ o, H a = some o ∧ ∀ xs, o ≠ .tup xs) ∧ G a = none := by
  cases γ with
  | none => intro a m; rw [show f = [] from h] at m; cases m
  | some d => obtain ⟨v, e, h⟩ := h; exact h.at
theorem mem_flat {fs : List (List Addr)} {i : Nat} {f : List Addr} {a : Addr} (e : fs[i]? = some f) (m : a ∈ f) : a ∈ fs.flatten := List.mem_flatten.mpr ⟨f, List.mem_of_getElem? e, m⟩
theorem flat_set {fs : List (List Addr)} {i : Nat} {f g : List Addr} (e : fs[i]? = some f) : (fs.set i g).flatten.Perm (g ++ (fs.set i []).flatten) := by
  induction fs generalizing i with
  | nil => simp at e
  | cons x r ih =>
    cases i with
    | zero => simp
    | succ i =>
      have e' : r[i]? = some f := by simpa using e
      simp only [List.set_cons_succ, List.flatten_cons]
      refine ((ih e').append_left x).trans ?_
      rw [← List.append_assoc, ← List.append_assoc]
      exact (List.perm_append_comm).append_right _
theorem flat_sub : ∀ (fs : List (List Addr)) (i : Nat), (fs.set i []).flatten.Sublist fs.flatten
  | [], _ => by simp
  | x :: r, 0 => by simp
  | x :: r, i + 1 => by
    simp only [List.set_cons_succ, List.flatten_cons]
    exact (List.Sublist.refl x).append (flat_sub r i)
theorem flat_at {fs : List (List Addr)} {i : Nat} {f : List Addr} (e : fs[i]? = some f) : fs.flatten.Perm (f ++ (fs.set i []).flatten) := by
  have h := flat_set (g := f) e
  have q : fs.set i f = fs := by
    apply List.ext_getElem?
    intro j
    by_cases hj : i = j
    · subst hj
      obtain ⟨hl, _⟩ := List.getElem?_eq_some_iff.mp e
      rw [List.getElem?_set_self hl, e]
    · rw [List.getElem?_set_ne hj]
  rw [q] at h
  exact h
theorem OwnS.fs_at (h : OwnS K cl G H Γ σ fs) {i : Nat} {γ : Option D} (e : Γ[i]? = some γ) : ∃ s f, σ[i]? = some s ∧ fs[i]? = some f ∧ OwnO K cl G H γ s f := by
  obtain ⟨hl, _⟩ := List.getElem?_eq_some_iff.mp e
  have h1 : i < σ.length := by rw [← h.l1]; exact hl
  have h2 : i < fs.length := by rw [h.l2]; exact h1
  exact ⟨σ[i], fs[i], List.getElem?_eq_getElem h1, List.getElem?_eq_getElem h2, h.at_ i γ _ _ e (List.getElem?_eq_getElem h1) (List.getElem?_eq_getElem h2)⟩
/-- the slot's thing -/
theorem OwnS.get (h : OwnS K cl G H Γ σ fs) {i : Nat} {d : D} (e : Γ[i]? = some (some d)) : ∃ v f, σ[i]? = some (some v) ∧ fs[i]? = some f ∧ Own K cl G H d v f := by
  obtain ⟨s, f, e1, e2, v, rfl, o⟩ := h.fs_at e
  exact ⟨v, f, e1, e2, o⟩
theorem OwnS.mono (g : Ge G G') (h : OwnS K cl G H Γ σ fs) (k : ∀ a ∈ fs.flatten, H' a = H a ∧ G' a = none) : OwnS K cl G' H' Γ σ fs :=
  ⟨h.l1, h.l2, fun i γ s f e1 e2 e3 => (h.at_ i γ s f e1 e2 e3).mono g fun a m => k a (mem_flat e3 m)⟩
theorem OwnT.mono (g : Ge G G') : ∀ {Ts : List (D × V)} {ft : List Addr}, OwnT K cl G H Ts ft → (∀ a ∈ ft, H' a = H a ∧ G' a = none) → OwnT K cl G' H' Ts ft
  | [], _, h, _ => h
  | p :: Ts, _, h, k => by
    obtain ⟨f1, f2, rfl, h1, h2⟩ := h
    exact ⟨f1, f2, rfl, h1.mono g fun a m => k a (List.mem_append_left _ m), OwnT.mono g h2 fun a m => k a (List.mem_append_right _ m)⟩
theorem OwnT.at : ∀ {Ts : List (D × V)} {ft : List Addr}, OwnT K cl G H Ts ft → ∀ a ∈ ft, (∃ o, H a = some o ∧ ∀ xs, o ≠ .tup xs) ∧ G a = none
  | [], _, h, a, m => by rw [show _ = [] from h] at m; cases m
  | p :: Ts, _, h, a, m => by
    obtain ⟨f1, f2, rfl, h1, h2⟩ := h
    rcases List.mem_append.mp m with m | m
    · exact h1.at a m
    · exact OwnT.at h2 a m
theorem OwnS.at' (h : OwnS K cl G H Γ σ fs) : ∀ a ∈ fs.flatten, (∃ o, H a = some o ∧ ∀ xs, o ≠ .tup xs) ∧ G a = none := fun a m => by
  obtain ⟨f, hf, ha⟩ := List.mem_flatten.mp m
  obtain ⟨i, e⟩ := List.getElem?_of_mem hf
  obtain ⟨hl, _⟩ := List.getElem?_eq_some_iff.mp e
  have h1 : i < σ.length := by rw [← h.l2]; exact hl
  have h2 : i < Γ.length := by rw [h.l1]; exact h1
  exact (h.at_ i _ _ f (List.getElem?_eq_getElem h2) (List.getElem?_eq_getElem h1) e).at a ha
theorem OwnT.append : ∀ {Ts Us : List (D × V)} {f g : List Addr}, OwnT K cl G H Ts f → OwnT K cl G H Us g → OwnT K cl G H (Ts ++ Us) (f ++ g)
  | [], _, _, _, h, k => by rw [show _ = [] from h]; exact k
  | p :: Ts, _, _, _, h, k => by
    obtain ⟨f1, f2, rfl, h1, h2⟩ := h
    rw [List.append_assoc]
    exact ⟨f1, _, rfl, h1, OwnT.append h2 k⟩
theorem OwnT.split : ∀ {Ts Us : List (D × V)} {fp : List Addr}, OwnT K cl G H (Ts ++ Us) fp → ∃ f g, fp = f ++ g ∧ OwnT K cl G H Ts f ∧ OwnT K cl G H Us g
  | [], _, fp, h => ⟨[], fp, rfl, rfl, h⟩
  | p :: Ts, _, _, h => by
    obtain ⟨f1, f2, rfl, h1, h2⟩ := h
    obtain ⟨f, g, rfl, h3, h4⟩ := OwnT.split h2
    exact ⟨f1 ++ f, g, by rw [List.append_assoc], ⟨f1, f, rfl, h1, h3⟩, h4⟩
theorem OwnT.zip : ∀ {ds : List D} {xs : List V} {fp : List Addr}, Owns K cl G H ds xs fp → OwnT K cl G H (ds.zip xs) fp
  | [], _, _, h => h.2
  | _ :: _, _, _, h => by
    obtain ⟨x, r, f1, f2, rfl, rfl, h1, h2⟩ := h
    exact ⟨f1, f2, rfl, h1, OwnT.zip h2⟩
theorem OwnT.owns : ∀ {ds : List D} {xs : List V} {fp : List Addr}, ds.length = xs.length → OwnT K cl G H (ds.zip xs) fp → Owns K cl G H ds xs fp
  | [], [], _, _, h => ⟨rfl, h⟩
  | [], _ :: _, _, l, _ => by simp at l
  | _ :: _, [], _, l, _ => by simp at l
  | d :: ds, x :: xs, _, l, h => by
    obtain ⟨f1, f2, rfl, h1, h2⟩ := h
    exact ⟨x, xs, f1, f2, rfl, rfl, h1, OwnT.owns (by simpa using l) h2⟩

/-! ### the steps -/
theorem Rel.frn (r : Rel K cl G H Pn G0 Fr Γ Ts σ fs) {a : Addr} (h : H a = none) : Fr a = none := by
  obtain ⟨ft, _, _, k⟩ := r.ts
  cases q : Fr a with
  | none => rfl
  | some o => rw [(k a o q).1] at h; cases h
theorem Rel.gn (r : Rel K cl G H Pn G0 Fr Γ Ts σ fs) {a : Addr} (h : H a = none) : G a = none := by
  cases q : G a with
  | none => rfl
  | some o => rw [r.sub a o q] at h; cases h
/-- fewer temporaries -/
theorem Rel.drop {Us : List (D × V)} (r : Rel K cl G H Pn G0 Fr Γ (Us ++ Ts) σ fs) : Rel K cl G H Pn G0 Fr Γ Ts σ fs := by
  obtain ⟨ft, h, nd, k⟩ := r.ts
  obtain ⟨f, g, rfl, h1, h2⟩ := h.split
  refine ⟨r.sl, ⟨g, h2, nd.sublist ((List.sublist_append_right f g).append_left _), fun a o e => ⟨(k a o e).1, (k a o e).2.1, fun m => (k a o e).2.2 ?_⟩⟩, r.sub, r.ge, r.tg, r.pn⟩
  rcases List.mem_append.mp m with m | m
  · exact List.mem_append_left _ m
  · exact List.mem_append_right _ (List.mem_append_right _ m)
theorem Rel.drop1 {p : D × V} (r : Rel K cl G H Pn G0 Fr Γ (p :: Ts) σ fs) : Rel K cl G H Pn G0 Fr Γ Ts σ fs := Rel.drop (Us := [p]) r
/-- temporaries in another order -/
theorem OwnT.perm : ∀ {Ts Us : List (D × V)} {f : List Addr}, Ts.Perm Us → OwnT K cl G H Ts f → ∃ g, f.Perm g ∧ OwnT K cl G H Us g := by
  intro Ts Us f p
  induction p generalizing f with
  | nil => exact fun h => ⟨f, .refl _, h⟩
  | cons x _ ih =>
    rintro ⟨f1, f2, rfl, h1, h2⟩
    obtain ⟨g, q, h⟩ := ih h2
    exact ⟨f1 ++ g, q.append_left _, f1, g, rfl, h1, h⟩
  | swap x y l =>
    rintro ⟨f1, _, rfl, h1, f2, f3, rfl, h2, h3⟩
    refine ⟨f2 ++ (f1 ++ f3), ?_, f2, _, rfl, h2, f1, f3, rfl, h1, h3⟩
    rw [← List.append_assoc, ← List.append_assoc]
    exact List.perm_append_comm.append_right _
  | trans _ _ ih1 ih2 =>
    intro h
    obtain ⟨g, q, h⟩ := ih1 h
    obtain ⟨g', q', h⟩ := ih2 h
    exact ⟨g', q.trans q', h⟩
theorem Rel.perm {Us : List (D × V)} (p : Ts.Perm Us) (r : Rel K cl G H Pn G0 Fr Γ Ts σ fs) : Rel K cl G H Pn G0 Fr Γ Us σ fs := by
  obtain ⟨ft, h, nd, k⟩ := r.ts
  obtain ⟨g, q, h'⟩ := h.perm p
  have q' := q.append_left fs.flatten
  exact ⟨r.sl, ⟨g, h', q'.nodup_iff.mp nd, fun a o e => ⟨(k a o e).1, (k a o e).2.1, fun m => (k a o e).2.2 (q'.mem_iff.mpr m)⟩⟩, r.sub, r.ge, r.tg, r.pn⟩
/-- something clean at hand -/
theorem Rel.push {d : D} {v : V} (r : Rel K cl G H Pn G0 Fr Γ Ts σ fs) (h : Own K cl G H d v []) : Rel K cl G H Pn G0 Fr Γ ((d, v) :: Ts) σ fs := by
  obtain ⟨ft, t, nd, k⟩ := r.ts
  exact ⟨r.sl, ⟨ft, ⟨[], ft, rfl, h, t⟩, nd, k⟩, r.sub, r.ge, r.tg, r.pn⟩
/-- the first temporary, as it stands -/
theorem Rel.top {d : D} {v : V} (r : Rel K cl G H Pn G0 Fr Γ ((d, v) :: Ts) σ fs) : ∃ f, Own K cl G H d v f := by
  obtain ⟨ft, ⟨f1, f2, _, h, _⟩, _⟩ := r.ts
  exact ⟨f1, h⟩
theorem Rel.mem {d : D} {v : V} (r : Rel K cl G H Pn G0 Fr Γ Ts σ fs) (m : (d, v) ∈ Ts) : ∃ f, Own K cl G H d v f := by
  obtain ⟨ft, h, _⟩ := r.ts
  have aux : ∀ {Ts : List (D × V)} {ft : List Addr}, OwnT K cl G H Ts ft → (d, v) ∈ Ts → ∃ f, Own K cl G H d v f := by
    intro Ts
    induction Ts with
    | nil => intro _ _ m; cases m
    | cons p Ts ih =>
      rintro _ ⟨f1, f2, _, h1, h2⟩ m
      rcases List.mem_cons.mp m with rfl | m
      · exact ⟨f1, h1⟩
      · exact ih h2 m
  exact aux h m
/-- something given up: it comes to G -/
theorem Rel.fz {d : D} {v : V} (r : Rel K cl G H Pn G0 Fr Γ ((d, v) :: Ts) σ fs) : ∃ G', Rel K cl G' H Pn G0 Fr Γ ((PX.fz d, v) :: Ts) σ fs := by
  obtain ⟨ft, ⟨f1, f2, rfl, h, t⟩, nd, k⟩ := r.ts
  have hn : ∀ a ∈ f1, G a = none := fun a m => (h.at a m).2
  have g := fzG_ge (H := H) hn
  have nin : ∀ a, (a ∈ fs.flatten ∨ a ∈ f2) → a ∉ f1 := fun a m z => by
    rw [List.nodup_append] at nd
    obtain ⟨_, n2, n3⟩ := nd
    rw [List.nodup_append] at n2
    rcases m with m | m
    · exact n3 a m a (List.mem_append_left _ z) rfl
    · exact n2.2.2 a z a m rfl
  have same : ∀ a, a ∉ f1 → fzG G H f1 a = G a := fun a m => by unfold fzG; rw [if_neg m]
  refine ⟨fzG G H f1, r.sl.mono g fun a m => ⟨rfl, ?_⟩, ⟨f2, ⟨[], f2, rfl, h.fz_of g fun a m => by unfold fzG; rw [if_pos m], t.mono g fun a m => ⟨rfl, ?_⟩⟩, ?_, fun a o e => ?_⟩, fun a o e => ?_, r.ge.trans g, fun q xs e => ?_, r.pn⟩
  · rw [same a (nin a (.inl m))]; exact (r.sl.at' a m).2
  · rw [same a (nin a (.inr m))]; exact (t.at a m).2
  · exact nd.sublist ((List.sublist_append_right f1 f2).append_left _)
  · obtain ⟨e1, e2, e3⟩ := k a o e
    have n1 : a ∉ f1 := fun z => e3 (List.mem_append_right _ (List.mem_append_left _ z))
    refine ⟨e1, by rw [same a n1]; exact e2, fun m => e3 ?_⟩
    rcases List.mem_append.mp m with m | m
    · exact List.mem_append_left _ m
    · exact List.mem_append_right _ (List.mem_append_right _ m)
  · unfold fzG at e
    split at e
    · exact e
    · exact r.sub a o e
  · have q0 := r.tg q xs e
    rw [same q fun m => by rw [hn q m] at q0; cases q0]
    exact q0
theorem Ge.upd_tup {p : Addr} {xs : List V} (h : G p = none) : Ge G (upd G p (.tup xs)) := ge_upd h
/-- a new tuple of things at hand -/
theorem Rel.newTup {ds : List D} {xs : List V} {p : Addr} (r : Rel K cl G H Pn G0 Fr Γ (ds.zip xs ++ Ts) σ fs) (l : ds.length = xs.length) (hp : H p = none) :
    Rel K cl (upd G p (.tup xs)) (upd H p (.tup xs)) Pn G0 Fr Γ ((.tup ds, .ref p) :: Ts) σ fs ∧ Keep [] fs fs H (upd H p (.tup xs)) := by
  have gp := r.gn hp
  have g : Ge G (upd G p (.tup xs)) := ge_upd gp
  obtain ⟨ft, h, nd, k⟩ := r.ts
  obtain ⟨f, f2, rfl, h1, h2⟩ := h.split
  have hs := h1.owns l
  have ne : ∀ a, (∃ o, H a = some o) → a ≠ p := fun a ⟨o, e⟩ z => by rw [z, hp] at e; cases e
  have keep : ∀ a, (∃ o, H a = some o) ∧ G a = none → upd H p (.tup xs) a = H a ∧ upd G p (.tup xs) a = none := fun a ⟨e, n⟩ => ⟨upd_ne (ne a e), by rw [upd_ne (ne a e)]; exact n⟩
  refine ⟨⟨r.sl.mono g fun a m => keep a ⟨let ⟨o, e, _⟩ := (r.sl.at' a m).1; ⟨o, e⟩, (r.sl.at' a m).2⟩, ⟨f ++ f2, ⟨f, f2, rfl, ⟨p, xs, rfl, upd_same, hs.mono g fun a m => keep a ⟨let ⟨o, e, _⟩ := (hs.at a m).1; ⟨o, e⟩, (hs.at a m).2⟩⟩, h2.mono g fun a m => keep a ⟨let ⟨o, e, _⟩ := (h2.at a m).1; ⟨o, e⟩, (h2.at a m).2⟩⟩, nd, fun a o e => ?_⟩, fun a o e => ?_, r.ge.trans g, fun q ys e => ?_, r.pn⟩, rfl, fun j _ => ⟨rfl, fun f' e a m => ?_⟩⟩
  · obtain ⟨e1, e2, e3⟩ := k a o e
    exact ⟨by rw [upd_ne (ne a ⟨o, e1⟩)]; exact e1, by rw [upd_ne (ne a ⟨o, e1⟩)]; exact e2, e3⟩
  · by_cases z : a = p
    · subst z; rw [upd_same] at e ⊢; exact e
    · rw [upd_ne z] at e ⊢; exact r.sub a o e
  · by_cases z : q = p
    · subst z; rw [upd_same] at e ⊢; exact e
    · rw [upd_ne z] at e ⊢; exact r.tg q ys e
  · obtain ⟨o, e1, _⟩ := (r.sl.at' a (mem_flat e m)).1
    exact upd_ne (ne a ⟨o, e1⟩)
/-- a new list, dict, instance of one's own -/
theorem Rel.newOwn {Us : List (D × V)} {d : D} {p : Addr} {o : HO} (r : Rel K cl G H Pn G0 Fr Γ (Us ++ Ts) σ fs) (hp : H p = none) (hd : ∀ ys, o ≠ .tup ys)
    (mk : ∀ f, OwnT K cl G (upd H p o) Us f → Own K cl G (upd H p o) d (.ref p) (p :: f)) :
    Rel K cl G (upd H p o) Pn G0 Fr Γ ((d, .ref p) :: Ts) σ fs ∧ Keep [] fs fs H (upd H p o) := by
  have gp := r.gn hp
  obtain ⟨ft, h, nd, k⟩ := r.ts
  obtain ⟨f, f2, rfl, h1, h2⟩ := h.split
  have ne : ∀ a, (∃ o, H a = some o) → a ≠ p := fun a ⟨o, e⟩ z => by rw [z, hp] at e; cases e
  have keep : ∀ a, (∃ o, H a = some o) ∧ G a = none → upd H p o a = H a ∧ G a = none := fun a ⟨e, n⟩ => ⟨upd_ne (ne a e), n⟩
  have pn1 : p ∉ fs.flatten := fun m => by obtain ⟨o, e, _⟩ := (r.sl.at' p m).1; rw [hp] at e; cases e
  have pn2 : p ∉ f := fun m => by obtain ⟨o, e, _⟩ := (h1.at p m).1; rw [hp] at e; cases e
  have pn3 : p ∉ f2 := fun m => by obtain ⟨o, e, _⟩ := (h2.at p m).1; rw [hp] at e; cases e
  refine ⟨⟨r.sl.mono (Ge.refl _) fun a m => keep a ⟨let ⟨o, e, _⟩ := (r.sl.at' a m).1; ⟨o, e⟩, (r.sl.at' a m).2⟩, ⟨(p :: f) ++ f2, ⟨p :: f, f2, rfl, mk f (h1.mono (Ge.refl _) fun a m => keep a ⟨let ⟨o, e, _⟩ := (h1.at a m).1; ⟨o, e⟩, (h1.at a m).2⟩), h2.mono (Ge.refl _) fun a m => keep a ⟨let ⟨o, e, _⟩ := (h2.at a m).1; ⟨o, e⟩, (h2.at a m).2⟩⟩, ?_, fun a u e => ?_⟩, fun a u e => ?_, r.ge, fun q ys e => ?_, r.pn⟩, rfl, fun j _ => ⟨rfl, fun f' e a m => ?_⟩⟩
  · refine (List.perm_middle (a := p) (l₁ := fs.flatten) (l₂ := f ++ f2)).nodup_iff.mpr ?_
    refine List.nodup_cons.mpr ⟨fun m => ?_, nd⟩
    rcases List.mem_append.mp m with m | m
    · exact pn1 m
    · exact (List.mem_append.mp m).elim pn2 pn3
  · obtain ⟨e1, e2, e3⟩ := k a u e
    refine ⟨by rw [upd_ne (ne a ⟨u, e1⟩)]; exact e1, e2, fun m => ?_⟩
    rcases List.mem_append.mp m with m | m
    · exact e3 (List.mem_append_left _ m)
    · rcases List.mem_cons.mp (show a ∈ p :: (f ++ f2) from m) with z | m
      · exact ne a ⟨u, e1⟩ z
      · exact e3 (List.mem_append_right _ m)
  · rw [upd_ne fun z => by rw [z, gp] at e; cases e]; exact r.sub a u e
  · by_cases z : q = p
    · subst z; rw [upd_same] at e; exact absurd (Option.some.inj e) (hd ys)
    · rw [upd_ne z] at e; exact r.tg q ys e
  · obtain ⟨o, e1, _⟩ := (r.sl.at' a (mem_flat e m)).1
    exact upd_ne (ne a ⟨o, e1⟩)
/-- the first temporary goes to a slot -/
theorem Rel.store {d : D} {v : V} {i : Nat} (r : Rel K cl G H Pn G0 Fr Γ ((d, v) :: Ts) σ fs) (hi : i < Γ.length) (hn : ∀ p ∈ Pn, p.1 = i → p.2 = some v) :
    ∃ fs', Rel K cl G H Pn G0 Fr (Γ.set i (some d)) Ts (σ.set i (some v)) fs' ∧ Keep [i] fs fs' H H := by
  obtain ⟨ft, ⟨f1, f2, rfl, h, t⟩, nd, k⟩ := r.ts
  have hs : i < σ.length := by rw [← r.sl.l1]; exact hi
  have hf : i < fs.length := by rw [r.sl.l2]; exact hs
  have ef : fs[i]? = some fs[i] := List.getElem?_eq_getElem hf
  have p1 := flat_set (g := f1) ef
  have p2 := flat_at ef
  have sub : ∀ a, a ∈ (fs.set i f1).flatten ++ f2 → a ∈ fs.flatten ++ (f1 ++ f2) := fun a m => by
    rcases List.mem_append.mp m with m | m
    · rcases List.mem_append.mp (p1.mem_iff.mp m) with m | m
      · exact List.mem_append_right _ (List.mem_append_left _ m)
      · exact List.mem_append_left _ (p2.mem_iff.mpr (List.mem_append_right _ m))
    · exact List.mem_append_right _ (List.mem_append_right _ m)
  refine ⟨fs.set i f1, ⟨⟨by simp [r.sl.l1], by simp [r.sl.l2], fun j γ s f e1 e2 e3 => ?_⟩, ⟨f2, t, ?_, fun a o e => ⟨(k a o e).1, (k a o e).2.1, fun m => (k a o e).2.2 (sub a m)⟩⟩, r.sub, r.ge, r.tg, fun p m => ?_⟩, by simp, fun j hj => ?_⟩
  · by_cases z : i = j
    · subst z
      rw [List.getElem?_set_self hi] at e1
      rw [List.getElem?_set_self hs] at e2
      rw [List.getElem?_set_self hf] at e3
      cases e1; cases e2; cases e3
      exact ⟨v, rfl, h⟩
    · rw [List.getElem?_set_ne z] at e1 e2 e3
      exact r.sl.at_ j γ s f e1 e2 e3
  · have nd2 : ((fs.set i []).flatten ++ (f1 ++ f2)).Nodup := nd.sublist ((flat_sub fs i).append_right _)
    refine ((p1.append_right f2).trans ?_).nodup_iff.mpr nd2
    rw [List.append_assoc]
    have : (f1 ++ ((fs.set i []).flatten ++ f2)).Perm ((fs.set i []).flatten ++ (f1 ++ f2)) := by
      rw [← List.append_assoc, ← List.append_assoc]
      exact List.perm_append_comm.append_right _
    exact this
  · by_cases z : i = p.1
    · rw [← z, List.getElem?_set_self hs, hn p m z.symm]
    · rw [List.getElem?_set_ne z]; exact r.pn p m
  · have z : i ≠ j := fun z => hj (by simp [z])
    exact ⟨by rw [List.getElem?_set_ne z], fun _ _ _ _ => rfl⟩
end
end PX

namespace PX
open PySem PySem.Spec PyProof.Rows L2

/-! ### what a piece of a def's text does, by its reading -/
/-- what is wanted of an exception; the slots that are not stored to -/
structure Wt where
  ex : Nat → Hp → Prop
  refs : List Nat
section
variable (K : PySem.W.Frag) (cl : Clss) (E : Wt)
/-- Ex says nothing but what is wanted of an exception -/
def ExOk (Pn : List (Nat × Option V)) (G0 Fr : Hp) (Ex : Nat → Env → Prop) : Prop :=
  (∀ p ∈ Pn, p.1 ∈ E.refs) ∧ ∀ c Γ σ Ts H G fs, Ex c Γ → Rel K cl G H Pn G0 Fr Γ Ts σ fs → E.ex c H
/-- an expression: m; the slots of W may change -/
def TX (W : List Nat) (m : M D) : TE := fun σ H Q => ∃ Pn G0 Fr Γ Ts G fs Ex, Rel K cl G H Pn G0 Fr Γ Ts σ fs ∧ ExOk K cl E Pn G0 Fr Ex ∧
  Sat Ex m Γ fun d Γ' => ∀ v H' G' fs', Rel K cl G' H' Pn G0 Fr Γ' ((d, v) :: Ts) σ fs' → Keep W fs fs' H H' → Q v H'
/-- an expression that only reads -/
def TP (p : PM D) : TE := fun σ H Q => ∃ Pn G0 Fr Γ Ts G fs, Rel K cl G H Pn G0 Fr Γ Ts σ fs ∧ ∃ d, p Γ = some d ∧ ∀ v f, Own K cl G H d v f → Q v H
def TTX (W : List Nat) (m : M Bool) : TT := fun σ H Q => ∃ Pn G0 Fr Γ Ts G fs Ex, Rel K cl G H Pn G0 Fr Γ Ts σ fs ∧ ExOk K cl E Pn G0 Fr Ex ∧
  Sat Ex m Γ fun b Γ' => ∀ H' G' fs', Rel K cl G' H' Pn G0 Fr Γ' Ts σ fs' → Keep W fs fs' H H' → Q b H'
def TTP (p : PM Bool) : TT := fun σ H Q => ∃ Pn G0 Fr Γ Ts G fs, Rel K cl G H Pn G0 Fr Γ Ts σ fs ∧ ∃ b, p Γ = some b ∧ Q b H
/-- values at hand -/
def Each (G H : Hp) : List D → List V → Prop
  | [], vs => vs = []
  | d :: ds, vs => ∃ v r, vs = v :: r ∧ (∃ f, Own K cl G H d v f) ∧ Each G H ds r
/-- arguments, given up or read -/
def TAX (W : List Nat) (m : M (List D)) : TA := fun σ H Q => ∃ Pn G0 Fr Γ Ts G fs Ex, Rel K cl G H Pn G0 Fr Γ Ts σ fs ∧ ExOk K cl E Pn G0 Fr Ex ∧
  Sat Ex m Γ fun ds Γ' => ∀ vs Us H' G' fs', Rel K cl G' H' Pn G0 Fr Γ' (Us ++ Ts) σ fs' → Keep W fs fs' H H' → Each K cl G' H' ds vs → Q vs H'
def TAP (p : PM (List D)) : TA := fun σ H Q => ∃ Pn G0 Fr Γ Ts G fs, Rel K cl G H Pn G0 Fr Γ Ts σ fs ∧ ∃ ds, p Γ = some ds ∧ ∀ vs, Each K cl G H ds vs → Q vs H
/-- arguments, each at hand, given up -/
def TAV (W : List Nat) (m : M (List D)) : TA := fun σ H Q => ∃ Pn G0 Fr Γ Ts G fs Ex, Rel K cl G H Pn G0 Fr Γ Ts σ fs ∧ ExOk K cl E Pn G0 Fr Ex ∧
  Sat Ex m Γ fun ds Γ' => ∀ vs H' G' fs', ds.length = vs.length → Rel K cl G' H' Pn G0 Fr Γ' (ds.zip vs ++ Ts) σ fs' → Keep W fs fs' H H' → Q vs H'
/-- statements: how they end -/
inductive Fl where
  | nx | rt (d : D) | bk | ct
deriving Inhabited
def TSt (m : M Fl) : TS := fun D σ H => ∃ Pn G0 Fr Γ Ts G fs Ex, Rel K cl G H Pn G0 Fr Γ Ts σ fs ∧ ExOk K cl E Pn G0 Fr Ex ∧
  Sat Ex m Γ fun f Γ' => match f with
    | .nx => ∀ σ' H' G' fs', Rel K cl G' H' Pn G0 Fr Γ' Ts σ' fs' → D.nx σ' H'
    | .bk => ∀ σ' H' G' fs', Rel K cl G' H' Pn G0 Fr Γ' Ts σ' fs' → D.bk σ' H'
    | .ct => ∀ σ' H' G' fs', Rel K cl G' H' Pn G0 Fr Γ' Ts σ' fs' → D.ct σ' H'
    | .rt d => ∀ v σ' H' G' fs', Rel K cl G' H' Pn G0 Fr Γ' ((d, v) :: Ts) σ' fs' → D.rt v H'
end

theorem _root_.L2.PE.weak {X : Cx} {e : Expr} {t t' : TE} (h : PE X e t) (w : ∀ σ H Q, t' σ H Q → t σ H Q) : PE X e t' := ⟨fun pins s σ H Q I q => h.run pins s σ H Q I (w σ H Q q)⟩
theorem _root_.L2.PT.weak {X : Cx} {e : Expr} {t t' : TT} (h : PT X e t) (w : ∀ σ H Q, t' σ H Q → t σ H Q) : PT X e t' := ⟨fun pins s σ H Q I q => h.run pins s σ H Q I (w σ H Q q)⟩
theorem _root_.L2.PA.weak {X : Cx} {es : List Expr} {t t' : TA} (h : PA X es t) (w : ∀ σ H Q, t' σ H Q → t σ H Q) : PA X es t' := ⟨fun pos pins s σ H Q I q => h.run pos pins s σ H Q I (w σ H Q q)⟩
theorem _root_.L2.PS.weak {X : Cx} {st : Stmt} {t t' : TS} (h : PS X st t) (w : ∀ D σ H, t' D σ H → t D σ H) : PS X st t' := ⟨fun pins s σ H D I q => h.run pins s σ H D I (w D σ H q)⟩
theorem _root_.L2.PSs.weak {X : Cx} {st : List Stmt} {t t' : TS} (h : PSs X st t) (w : ∀ D σ H, t' D σ H → t D σ H) : PSs X st t' := ⟨fun pins s σ H D I q => h.run pins s σ H D I (w D σ H q)⟩
/-- a rule that looks at the state first -/
theorem pe_inv {X : Cx} {e : Expr} {t t' : TE} (h : PE X e t) (w : ∀ pins s σ H Q, Inv X pins σ H s → t' σ H Q → t σ H Q) : PE X e t' := ⟨fun pins s σ H Q I q => h.run pins s σ H Q I (w pins s σ H Q I q)⟩

section
variable {K : PySem.W.Frag} {cl : Clss} {E : Wt}
theorem Each.length {G H : Hp} : ∀ {ds : List D} {vs : List V}, Each K cl G H ds vs → ds.length = vs.length
  | [], vs, h => by rw [show vs = [] from h]; rfl
  | d :: ds, vs, h => by
    obtain ⟨v, r, rfl, _, h⟩ := h
    rw [List.length_cons, List.length_cons, Each.length h]

/-! ### reading, given up: a value -/
/-- the value of what is only read; where it holds something of one's own the slot it hangs on is given up -/
def mVal (i : Option Nat) (p : PM D) : M D := fun Γ => match p Γ with
  | none => none
  | some d => if cln d then some (.ok d, Γ) else match i with
    | none => none
    | some i => match Γ[i]? with
      | some (some di) => match p (Γ.set i (some (fz di))) with
        | some d' => if cln d' then some (.ok d', Γ.set i (some (fz di))) else none
        | none => none
      | _ => none
def rootW : Option Nat → List Nat
  | none => []
  | some i => [i]
theorem Rel.take {G H G0 Fr : Hp} {Pn : List (Nat × Option V)} {Γ : Env} {Ts : List (D × V)} {σ : L2.St} {fs : List (List Addr)} {i : Nat} {d : D} (r : Rel K cl G H Pn G0 Fr Γ Ts σ fs) (e : Γ[i]? = some (some d)) :
    ∃ v, σ[i]? = some (some v) ∧ Rel K cl G H Pn G0 Fr (Γ.set i none) ((d, v) :: Ts) σ (fs.set i []) ∧ Keep [i] fs (fs.set i []) H H := by
  obtain ⟨v, f, e1, e2, o⟩ := r.sl.get e
  obtain ⟨ft, t, nd, k⟩ := r.ts
  have p2 := flat_at e2
  have hi : i < Γ.length := (List.getElem?_eq_some_iff.mp e).1
  have hf : i < fs.length := (List.getElem?_eq_some_iff.mp e2).1
  have pm : (fs.flatten ++ ft).Perm ((fs.set i []).flatten ++ (f ++ ft)) := by
    refine (p2.append_right ft).trans ?_
    rw [List.append_assoc, ← List.append_assoc, ← List.append_assoc]
    exact List.perm_append_comm.append_right _
  refine ⟨v, e1, ⟨⟨by simp [r.sl.l1], by simp [r.sl.l2], fun j γ s g e3 e4 e5 => ?_⟩, ⟨f ++ ft, ⟨f, ft, rfl, o, t⟩, pm.nodup_iff.mp nd, fun a u q => ⟨(k a u q).1, (k a u q).2.1, fun m => (k a u q).2.2 (pm.mem_iff.mpr m)⟩⟩, r.sub, r.ge, r.tg, r.pn⟩, by simp, fun j hj => ?_⟩
  · by_cases z : i = j
    · subst z
      rw [List.getElem?_set_self hi] at e3
      rw [List.getElem?_set_self hf] at e5
      cases e3; cases e5
      rfl
    · rw [List.getElem?_set_ne z] at e3 e5
      exact r.sl.at_ j γ s g e3 e4 e5
  · have z : i ≠ j := fun z => hj (by simp [z])
    exact ⟨by rw [List.getElem?_set_ne z], fun _ _ _ _ => rfl⟩
theorem set_same {α : Type} {l : List α} {i : Nat} {x : α} (e : l[i]? = some x) : l.set i x = l := by
  obtain ⟨h, rfl⟩ := List.getElem?_eq_some_iff.mp e
  exact List.set_getElem_self h
/-- a slot's thing given up -/
theorem Rel.fzAt {G H G0 Fr : Hp} {Pn : List (Nat × Option V)} {Γ : Env} {Ts : List (D × V)} {σ : L2.St} {fs : List (List Addr)} {i : Nat} {d : D} (r : Rel K cl G H Pn G0 Fr Γ Ts σ fs) (e : Γ[i]? = some (some d)) :
    ∃ G' fs', Rel K cl G' H Pn G0 Fr (Γ.set i (some (PX.fz d))) Ts σ fs' ∧ Keep [i] fs fs' H H := by
  obtain ⟨v, e1, r1, k1⟩ := r.take e
  obtain ⟨G', r2⟩ := r1.fz
  obtain ⟨ft, ⟨f1, f2, rfl, o, t⟩, nd, k⟩ := r2.ts
  have hi : i < Γ.length := (List.getElem?_eq_some_iff.mp e).1
  have z : f1 = [] := o.clean (fz_cln d)
  subst z
  refine ⟨G', fs.set i [], ⟨⟨by simpa using r2.sl.l1, r2.sl.l2, fun j γ s g e3 e4 e5 => ?_⟩, ⟨f2, t, nd, k⟩, r2.sub, r2.ge, r2.tg, r2.pn⟩, k1⟩
  by_cases z : i = j
  · subst z
    rw [List.getElem?_set_self hi] at e3
    rw [e1] at e4
    have e6 := r2.sl.at_ i none (some v) g (by rw [List.getElem?_set_self hi]) e1 e5
    cases e3; cases e4
    rw [show g = [] from e6]
    exact ⟨v, rfl, o⟩
  · rw [List.getElem?_set_ne z] at e3
    exact r2.sl.at_ j γ s g (by rw [List.getElem?_set_ne z]; exact e3) e4 e5
theorem tx_val {p : PM D} {i : Option Nat} {W : List Nat} (hW : ∀ j ∈ rootW i, j ∈ W) {X : Cx} {e : Expr} (h : PE X e (TP K cl p)) : PE X e (TX K cl E W (mVal i p)) := by
  refine h.weak fun σ H Q ⟨Pn, G0, Fr, Γ, Ts, G, fs, Ex, r, ex, q⟩ => ?_
  unfold Sat mVal at q
  cases hp : p Γ with
  | none => rw [hp] at q; exact q.elim
  | some d =>
    rw [hp] at q
    dsimp only at q
    by_cases hc : cln d = true
    · rw [if_pos hc] at q
      exact ⟨Pn, G0, Fr, Γ, Ts, G, fs, r, d, hp, fun v f o => q v H G fs (r.push (o.of_clean hc)) Keep.refl⟩
    · rw [if_neg hc] at q
      cases i with
      | none => exact q.elim
      | some i =>
        dsimp only at q
        cases hi : Γ[i]? with
        | none => rw [hi] at q; exact q.elim
        | some γ =>
          rw [hi] at q
          cases γ with
          | none => exact q.elim
          | some di =>
            dsimp only at q
            obtain ⟨G', fs', r', k'⟩ := r.fzAt hi
            cases hp' : p (Γ.set i (some (fz di))) with
            | none => rw [hp'] at q; exact q.elim
            | some d' =>
              rw [hp'] at q
              dsimp only at q
              by_cases hc' : cln d' = true
              · rw [if_pos hc'] at q
                exact ⟨Pn, G0, Fr, _, Ts, G', fs', r', d', hp', fun v f o => q v H G' fs' (r'.push (o.of_clean hc')) (k'.mono fun j m => hW j (by simpa [rootW] using m))⟩
              · rw [if_neg hc'] at q
                exact q.elim
theorem TX.mono {W W' : List Nat} {m : M D} (h : ∀ j ∈ W, j ∈ W') {σ : L2.St} {H : Hp} {Q : VK} (t : TX K cl E W' m σ H Q) : TX K cl E W m σ H Q := by
  obtain ⟨Pn, G0, Fr, Γ, Ts, G, fs, Ex, r, ex, q⟩ := t
  exact ⟨Pn, G0, Fr, Γ, Ts, G, fs, Ex, r, ex, q.imp fun d Γ' z v H' G' fs' r' k => z v H' G' fs' r' (k.mono h)⟩
/-- a test that only reads -/
theorem ttx_val {p : PM Bool} {X : Cx} {e : Expr} {W : List Nat} (h : PT X e (TTP K cl p)) : PT X e (TTX K cl E W (mP p)) := by
  refine h.weak fun σ H Q ⟨Pn, G0, Fr, Γ, Ts, G, fs, Ex, r, ex, q⟩ => ?_
  obtain ⟨b, hb, q⟩ := Sat.mP.mp q
  exact ⟨Pn, G0, Fr, Γ, Ts, G, fs, r, b, hb, q H G fs r Keep.refl⟩
theorem TTX.mono {W W' : List Nat} {m : M Bool} (h : ∀ j ∈ W, j ∈ W') {σ : L2.St} {H : Hp} {Q : Bool → Hp → Prop} (t : TTX K cl E W' m σ H Q) : TTX K cl E W m σ H Q := by
  obtain ⟨Pn, G0, Fr, Γ, Ts, G, fs, Ex, r, ex, q⟩ := t
  exact ⟨Pn, G0, Fr, Γ, Ts, G, fs, Ex, r, ex, q.imp fun d Γ' z H' G' fs' r' k => z H' G' fs' r' (k.mono h)⟩

/-! ### two parts in a row -/
theorem two_PP {p q : PM D} {σ : L2.St} {H : Hp} {R : V → V → Hp → Prop} {Pn G0 Fr Γ Ts G fs} (r : Rel K cl G H Pn G0 Fr Γ Ts σ fs) {d e : D} (hp : p Γ = some d) (hq : q Γ = some e)
    (h : ∀ x y fx fy, Own K cl G H d x fx → Own K cl G H e y fy → R x y H) : TP K cl p σ H fun x H1 => TP K cl q σ H1 fun y H2 => R x y H2 :=
  ⟨Pn, G0, Fr, Γ, Ts, G, fs, r, d, hp, fun x fx ox => ⟨Pn, G0, Fr, Γ, Ts, G, fs, r, e, hq, fun y fy oy => h x y fx fy ox oy⟩⟩
/-- the first one's value given up, the second one read -/
theorem two_EP {W : List Nat} {m : M D} {q : PM D} {σ : L2.St} {H : Hp} {R : V → V → Hp → Prop} {Pn G0 Fr Γ Ts G fs Ex} (r : Rel K cl G H Pn G0 Fr Γ Ts σ fs) (ex : ExOk K cl E Pn G0 Fr Ex)
    (h : Sat Ex m Γ fun d Γ' => ∃ e, q Γ' = some e ∧ ∀ x y fx fy H' G' fs', Rel K cl G' H' Pn G0 Fr Γ' ((fz d, x) :: Ts) σ fs' → Keep W fs fs' H H' → Own K cl G' H' (fz d) x fx → Own K cl G' H' e y fy → R x y H') :
    TX K cl E W m σ H fun x H1 => TP K cl q σ H1 fun y H2 => R x y H2 := by
  refine ⟨Pn, G0, Fr, Γ, Ts, G, fs, Ex, r, ex, h.imp fun d Γ' ⟨e, hq, k⟩ x H1 G1 fs1 r1 k1 => ?_⟩
  obtain ⟨G2, r2⟩ := r1.fz
  obtain ⟨fx, ox⟩ := r2.top
  exact ⟨Pn, G0, Fr, Γ', _, G2, fs1, r2, e, hq, fun y fy oy => k x y fx fy H1 G2 fs1 r2 k1 ox oy⟩
theorem two_EE {W1 W2 W : List Nat} (w1 : ∀ j ∈ W1, j ∈ W) (w2 : ∀ j ∈ W2, j ∈ W) {m n : M D} {σ : L2.St} {H : Hp} {R : V → V → Hp → Prop} {Pn G0 Fr Γ Ts G fs Ex} (r : Rel K cl G H Pn G0 Fr Γ Ts σ fs) (ex : ExOk K cl E Pn G0 Fr Ex)
    (h : Sat Ex m Γ fun d Γ1 => Sat Ex n Γ1 fun e Γ' => ∀ x y fx fy H' G' fs', Rel K cl G' H' Pn G0 Fr Γ' ((fz e, y) :: (fz d, x) :: Ts) σ fs' → Keep W fs fs' H H' → Own K cl G' H' (fz d) x fx → Own K cl G' H' (fz e) y fy → R x y H') :
    TX K cl E W1 m σ H fun x H1 => TX K cl E W2 n σ H1 fun y H2 => R x y H2 := by
  refine ⟨Pn, G0, Fr, Γ, Ts, G, fs, Ex, r, ex, h.imp fun d Γ1 k x H1 G1 fs1 r1 k1 => ?_⟩
  obtain ⟨G2, r2⟩ := r1.fz
  refine ⟨Pn, G0, Fr, Γ1, _, G2, fs1, Ex, r2, ex, k.imp fun e Γ' k y H3 G3 fs3 r3 k3 => ?_⟩
  obtain ⟨G4, r4⟩ := r3.fz
  obtain ⟨fy, oy⟩ := r4.top
  obtain ⟨fx, ox⟩ := r4.drop1.top
  exact k x y fx fy H3 G4 fs3 r4 ((k1.mono w1).trans (k3.mono w2)) ox oy

/-! ### what is new -/
/-- the object o is the new thing z -/
def New (K : PySem.W.Frag) (cl : Clss) (G H : Hp) : D → HO → Prop
  | .lst true ds, o => ∃ xs, o = .lst xs ∧ Owns K cl G H ds xs []
  | .tup ds, o => ∃ xs, o = .tup xs ∧ Owns K cl G H ds xs []
  | .dic true t ks ds, o => ∃ xs, DicOk t ks o xs ∧ Owns K cl G H ds xs []
  | _, _ => False
theorem Rel.new {G H G0 Fr : Hp} {Pn : List (Nat × Option V)} {Γ : Env} {Ts : List (D × V)} {σ : L2.St} {fs : List (List Addr)} {z : D} {p : Addr} {o : HO} (r : Rel K cl G H Pn G0 Fr Γ Ts σ fs) (hp : H p = none) (n : New K cl G H z o) :
    ∃ G', Rel K cl G' (upd H p o) Pn G0 Fr Γ ((z, .ref p) :: Ts) σ fs ∧ Keep [] fs fs H (upd H p o) := by
  cases z with
  | lst b ds =>
    cases b with
    | false => exact False.elim n
    | true =>
      obtain ⟨xs, rfl, ow⟩ := n
      have q := Rel.newOwn (Us := []) (Ts := Ts) (d := .lst true ds) (o := .lst xs) r hp (fun _ z => nomatch z) fun f t => by
        rw [show f = [] from t]
        exact ⟨p, xs, [], rfl, upd_same, r.gn hp, rfl, ow.ch (Ge.refl _)⟩
      exact ⟨G, q⟩
  | dic b t ks ds =>
    cases b with
    | false => exact False.elim n
    | true =>
      obtain ⟨xs, dk, ow⟩ := n
      have q := Rel.newOwn (Us := []) (Ts := Ts) (d := .dic true t ks ds) (o := o) r hp dk.ntup fun f t => by
        rw [show f = [] from t]
        exact ⟨p, o, xs, [], rfl, upd_same, r.gn hp, dk, rfl, ow.ch (Ge.refl _)⟩
      exact ⟨G, q⟩
  | tup ds =>
    obtain ⟨xs, rfl, ow⟩ := n
    obtain ⟨ft, t, nd, k⟩ := r.ts
    have r' : Rel K cl G H Pn G0 Fr Γ (ds.zip xs ++ Ts) σ fs := ⟨r.sl, ⟨ft, by have := (OwnT.zip ow).append t; simpa using this, nd, k⟩, r.sub, r.ge, r.tg, r.pn⟩
    exact ⟨_, r'.newTup ow.length hp⟩
  | _ => exact False.elim n

/-! ### operators by data -/
section
variable (X : Cx) (cl : Clss)
/-- an operation on two things that tells an old thing or a plain one -/
def OpS (f : Value → Value → Sem Value) (g : D → D → Option D) : Prop :=
  ∀ (pins : List (Addr × Obj)) (s : Shared) (σ : L2.St) (H G : Hp) (x y : V) (v u : Value) (d e z : D) (fx fy : List Addr) (Q : VK), Inv X pins σ H s → RelV x v → RelV y u → Sub G H → (∀ q xs, H q = some (.tup xs) → G q = some (.tup xs)) →
    Own X.K cl G H d x fx → Own X.K cl G H e y fy → g d e = some z → (∀ w fw, Own X.K cl G H z w fw → Q w H) → wpAny (model X.prog X.w) X.A (f v u) (EP X pins σ Q) X.xe s
/-- .. or a new one -/
def OpA (f : Value → Value → Sem Value) (g : D → D → Option D) : Prop :=
  ∀ (pins : List (Addr × Obj)) (s : Shared) (σ : L2.St) (H G : Hp) (x y : V) (v u : Value) (d e z : D) (fx fy : List Addr) (Q : VK), Inv X pins σ H s → RelV x v → RelV y u → Sub G H → (∀ q xs, H q = some (.tup xs) → G q = some (.tup xs)) →
    Own X.K cl G H d x fx → Own X.K cl G H e y fy → g d e = some z → (cln z = true → ∀ w fw, Own X.K cl G H z w fw → Q w H) → (∀ p o, H p = none → New X.K cl G H z o → Q (.ref p) (upd H p o)) → wpAny (model X.prog X.w) X.A (f v u) (EP X pins σ Q) X.xe s
/-- a call with things -/
def ClS (f : Value) (g : List D → Option D) : Prop :=
  ∀ (pins : List (Addr × Obj)) (s : Shared) (σ : L2.St) (H G : Hp) (xs : List V) (us : List Value) (ds : List D) (z : D) (Q : VK), Inv X pins σ H s → Vals xs us → Sub G H → (∀ q xs, H q = some (.tup xs) → G q = some (.tup xs)) →
    Each X.K cl G H ds xs → g ds = some z → (∀ w fw, Own X.K cl G H z w fw → Q w H) → wpAny (model X.prog X.w) X.A (call f us) (EP X pins σ Q) X.xe s
def ClA (f : Value) (g : List D → Option D) : Prop :=
  ∀ (pins : List (Addr × Obj)) (s : Shared) (σ : L2.St) (H G : Hp) (xs : List V) (us : List Value) (ds : List D) (z : D) (Q : VK), Inv X pins σ H s → Vals xs us → Sub G H → (∀ q xs, H q = some (.tup xs) → G q = some (.tup xs)) →
    Each X.K cl G H ds xs → g ds = some z → (cln z = true → ∀ w fw, Own X.K cl G H z w fw → Q w H) → (∀ p o, H p = none → New X.K cl G H z o → Q (.ref p) (upd H p o)) → wpAny (model X.prog X.w) X.A (call f us) (EP X pins σ Q) X.xe s
end
/-- what an op asks, with the state within -/
def rS (K : PySem.W.Frag) (cl : Clss) (g : D → D → Option D) : R2 := fun x y H Q => ∃ G d e z fx fy, Sub G H ∧ (∀ q xs, H q = some (.tup xs) → G q = some (.tup xs)) ∧ Own K cl G H d x fx ∧ Own K cl G H e y fy ∧ g d e = some z ∧ ∀ w fw, Own K cl G H z w fw → Q w H
def rA (K : PySem.W.Frag) (cl : Clss) (g : D → D → Option D) : R2 := fun x y H Q => ∃ G d e z fx fy, Sub G H ∧ (∀ q xs, H q = some (.tup xs) → G q = some (.tup xs)) ∧ Own K cl G H d x fx ∧ Own K cl G H e y fy ∧ g d e = some z ∧ (cln z = true → ∀ w fw, Own K cl G H z w fw → Q w H) ∧ ∀ p o, H p = none → New K cl G H z o → Q (.ref p) (upd H p o)
theorem OpS.opR {X : Cx} {f : Value → Value → Sem Value} {g : D → D → Option D} (h : OpS X cl f g) : OpR X f (rS X.K cl g) := fun pins s σ H x y v u Q I rx ry ⟨G, d, e, z, fx, fy, sb, tg, ox, oy, eg, q⟩ => h pins s σ H G x y v u d e z fx fy Q I rx ry sb tg ox oy eg q
theorem OpA.opR {X : Cx} {f : Value → Value → Sem Value} {g : D → D → Option D} (h : OpA X cl f g) : OpR X f (rA X.K cl g) := fun pins s σ H x y v u Q I rx ry ⟨G, d, e, z, fx, fy, sb, tg, ox, oy, eg, q1, q2⟩ => h pins s σ H G x y v u d e z fx fy Q I rx ry sb tg ox oy eg q1 q2
def rcS (K : PySem.W.Frag) (cl : Clss) (g : List D → Option D) : List V → Hp → VK → Prop := fun xs H Q => ∃ G ds z, Sub G H ∧ (∀ q xs, H q = some (.tup xs) → G q = some (.tup xs)) ∧ Each K cl G H ds xs ∧ g ds = some z ∧ ∀ w fw, Own K cl G H z w fw → Q w H
def rcA (K : PySem.W.Frag) (cl : Clss) (g : List D → Option D) : List V → Hp → VK → Prop := fun xs H Q => ∃ G ds z, Sub G H ∧ (∀ q xs, H q = some (.tup xs) → G q = some (.tup xs)) ∧ Each K cl G H ds xs ∧ g ds = some z ∧ (cln z = true → ∀ w fw, Own K cl G H z w fw → Q w H) ∧ ∀ p o, H p = none → New K cl G H z o → Q (.ref p) (upd H p o)
theorem ClS.cR {X : Cx} {f : Value} {g : List D → Option D} (h : ClS X cl f g) : CallR X f (rcS X.K cl g) := fun pins s σ H xs us Q I r ⟨G, ds, z, sb, tg, ea, eg, q⟩ => h pins s σ H G xs us ds z Q I r sb tg ea eg q
theorem ClA.cR {X : Cx} {f : Value} {g : List D → Option D} (h : ClA X cl f g) : CallR X f (rcA X.K cl g) := fun pins s σ H xs us Q I r ⟨G, ds, z, sb, tg, ea, eg, q1, q2⟩ => h pins s σ H G xs us ds z Q I r sb tg ea eg q1 q2

/-! ### the readings of two-place things -/
def pOp2 (g : D → D → Option D) (p q : PM D) : PM D := fun Γ => match p Γ, q Γ with
  | some d, some e => g d e
  | _, _ => none
/-- g tells only plain things -/
def mOp2P (g : D → D → Option D) (m : M D) (q : PM D) : M D := do let d ← m; let e ← mP q; mO (g (fz d) e)
def mOp2 (g : D → D → Option D) (m n : M D) : M D := do let d ← m; let e ← n; mO (g (fz d) (fz e))
/-- .. that are clean -/
def gC (g : D → D → Option D) : D → D → Option D := fun d e => match g d e with
  | some z => if cln z then some z else none
  | none => none
theorem gC_some {g : D → D → Option D} {d e z : D} (h : gC g d e = some z) : g d e = some z ∧ cln z = true := by
  unfold gC at h
  split at h
  · split at h
    · cases h; exact ⟨by assumption, by assumption⟩
    · cases h
  · cases h
theorem t2_PP {g : D → D → Option D} {p q : PM D} {σ : L2.St} {H : Hp} {Q : VK} (h : TP K cl (pOp2 g p q) σ H Q) : tOp (rS K cl g) (TP K cl p) (TP K cl q) σ H Q := by
  obtain ⟨Pn, G0, Fr, Γ, Ts, G, fs, r, z, hz, k⟩ := h
  unfold pOp2 at hz
  cases hp : p Γ with
  | none => rw [hp] at hz; cases hz
  | some d =>
    cases hq : q Γ with
    | none => rw [hp, hq] at hz; cases hz
    | some e =>
      rw [hp, hq] at hz
      exact two_PP r hp hq fun x y fx fy ox oy => ⟨G, d, e, z, fx, fy, r.sub, r.tg, ox, oy, hz, k⟩
theorem t2_EP {g : D → D → Option D} {W : List Nat} {m : M D} {q : PM D} {σ : L2.St} {H : Hp} {Q : VK} (h : TX K cl E W (mOp2P (gC g) m q) σ H Q) : tOp (rS K cl g) (TX K cl E W m) (TP K cl q) σ H Q := by
  obtain ⟨Pn, G0, Fr, Γ, Ts, G, fs, Ex, r, ex, k⟩ := h
  refine two_EP r ex ((Sat.bind.mp k).imp fun d Γ' k => ?_)
  obtain ⟨e, hq, k⟩ := Sat.mP.mp (Sat.bind.mp k)
  obtain ⟨z, hz, k⟩ := Sat.mO.mp k
  obtain ⟨hz, hc⟩ := gC_some hz
  exact ⟨e, hq, fun x y fx fy H' G' fs' r' kp ox oy => ⟨G', fz d, e, z, fx, fy, r'.sub, r'.tg, ox, oy, hz, fun w fw ow => k w H' G' fs' (r'.drop1.push (ow.of_clean hc)) kp⟩⟩
theorem t2_EE {g : D → D → Option D} {W1 W2 W : List Nat} (w1 : ∀ j ∈ W1, j ∈ W) (w2 : ∀ j ∈ W2, j ∈ W) {m n : M D} {σ : L2.St} {H : Hp} {Q : VK} (h : TX K cl E W (mOp2 (gC g) m n) σ H Q) : tOp (rS K cl g) (TX K cl E W1 m) (TX K cl E W2 n) σ H Q := by
  obtain ⟨Pn, G0, Fr, Γ, Ts, G, fs, Ex, r, ex, k⟩ := h
  refine two_EE w1 w2 r ex ((Sat.bind.mp k).imp fun d Γ1 k => (Sat.bind.mp k).imp fun e Γ' k => ?_)
  obtain ⟨z, hz, k⟩ := Sat.mO.mp k
  obtain ⟨hz, hc⟩ := gC_some hz
  exact fun x y fx fy H' G' fs' r' kp ox oy => ⟨G', fz d, fz e, z, fx, fy, r'.sub, r'.tg, ox, oy, hz, fun w fw ow => k w H' G' fs' (r'.drop1.drop1.push (ow.of_clean hc)) kp⟩
/-- new things -/
def mOp2N (g : D → D → Option D) (p q : PM D) : M D := do let d ← mP p; let e ← mP q; mO (g d e)
theorem n2_PP {g : D → D → Option D} {W : List Nat} {p q : PM D} {σ : L2.St} {H : Hp} {Q : VK} (h : TX K cl E W (mOp2N g p q) σ H Q) : tOp (rA K cl g) (TP K cl p) (TP K cl q) σ H Q := by
  obtain ⟨Pn, G0, Fr, Γ, Ts, G, fs, Ex, r, ex, k⟩ := h
  obtain ⟨d, hp, k⟩ := Sat.mP.mp (Sat.bind.mp k)
  obtain ⟨e, hq, k⟩ := Sat.mP.mp (Sat.bind.mp k)
  obtain ⟨z, hz, k⟩ := Sat.mO.mp k
  exact two_PP r hp hq fun x y fx fy ox oy => ⟨G, d, e, z, fx, fy, r.sub, r.tg, ox, oy, hz, fun hc w fw ow => k w H G fs (r.push (ow.of_clean hc)) Keep.refl, fun a o ha n => by
    obtain ⟨G', r', kp⟩ := r.new ha n
    exact k _ _ G' fs r' (kp.mono fun j m => by cases m)⟩
theorem n2_EP {g : D → D → Option D} {W : List Nat} {m : M D} {q : PM D} {σ : L2.St} {H : Hp} {Q : VK} (h : TX K cl E W (mOp2P g m q) σ H Q) : tOp (rA K cl g) (TX K cl E W m) (TP K cl q) σ H Q := by
  obtain ⟨Pn, G0, Fr, Γ, Ts, G, fs, Ex, r, ex, k⟩ := h
  refine two_EP r ex ((Sat.bind.mp k).imp fun d Γ' k => ?_)
  obtain ⟨e, hq, k⟩ := Sat.mP.mp (Sat.bind.mp k)
  obtain ⟨z, hz, k⟩ := Sat.mO.mp k
  exact ⟨e, hq, fun x y fx fy H' G' fs' r' kp ox oy => ⟨G', fz d, e, z, fx, fy, r'.sub, r'.tg, ox, oy, hz, fun hc w fw ow => k w H' G' fs' (r'.drop1.push (ow.of_clean hc)) kp, fun a o ha n => by
    obtain ⟨G2, r2, kp2⟩ := r'.drop1.new ha n
    exact k _ _ G2 fs' r2 (kp.trans (kp2.mono fun j m => by cases m))⟩⟩
theorem n2_EE {g : D → D → Option D} {W1 W2 W : List Nat} (w1 : ∀ j ∈ W1, j ∈ W) (w2 : ∀ j ∈ W2, j ∈ W) {m n : M D} {σ : L2.St} {H : Hp} {Q : VK} (h : TX K cl E W (mOp2 g m n) σ H Q) : tOp (rA K cl g) (TX K cl E W1 m) (TX K cl E W2 n) σ H Q := by
  obtain ⟨Pn, G0, Fr, Γ, Ts, G, fs, Ex, r, ex, k⟩ := h
  refine two_EE w1 w2 r ex ((Sat.bind.mp k).imp fun d Γ1 k => (Sat.bind.mp k).imp fun e Γ' k => ?_)
  obtain ⟨z, hz, k⟩ := Sat.mO.mp k
  exact fun x y fx fy H' G' fs' r' kp ox oy => ⟨G', fz d, fz e, z, fx, fy, r'.sub, r'.tg, ox, oy, hz, fun hc w fw ow => k w H' G' fs' (r'.drop1.drop1.push (ow.of_clean hc)) kp, fun a o ha n => by
    obtain ⟨G2, r2, kp2⟩ := r'.drop1.drop1.new ha n
    exact k _ _ G2 fs' r2 (kp.trans (kp2.mono fun j m => by cases m))⟩
end
end PX

namespace PX
open PySem PySem.Spec PyProof.Rows L2
section
variable {K : PySem.W.Frag} {cl : Clss} {E : Wt}

/-! ### names and constants -/
def pVar (i : Nat) : PM D := fun Γ => match Γ[i]? with
  | some (some d) => some d
  | _ => none
theorem pVar_some {i : Nat} {Γ : Env} {d : D} (h : pVar i Γ = some d) : Γ[i]? = some (some d) := by
  unfold pVar at h
  split at h
  · cases h; assumption
  · cases h
theorem tp_var {X : Cx} {i : Nat} {x : Str} {pos : Pos} (hN : X.N[i]? = some x) (hv : Vis X.env.scope x) (hd : (x == ("__debug__" : Str)) = false) (hcd : (x == ("__classdict__" : Str)) = false) : PE X (.Name x pos) (TP K cl (pVar i)) := by
  refine (pe_var hN hv hd hcd).weak fun σ H Q ⟨Pn, G0, Fr, Γ, Ts, G, fs, r, d, hp, q⟩ => ?_
  obtain ⟨v, f, e1, e2, o⟩ := r.sl.get (pVar_some hp)
  exact ⟨v, e1, q v f o⟩
def pCst (d : D) : PM D := fun _ => some d
theorem tp_cst {X : Cx} {e : Expr} {v : V} {d : D} (h : PE X e (tC v)) (o : ∀ G H, Own K cl G H d v []) : PE X e (TP K cl (pCst d)) := by
  refine h.weak fun σ H Q ⟨Pn, G0, Fr, Γ, Ts, G, fs, r, d', hp, q⟩ => ?_
  cases hp
  exact q v [] (o G H)

/-! ### arguments -/
def pNil : PM (List D) := fun _ => some []
def pCons (p : PM D) (q : PM (List D)) : PM (List D) := fun Γ => match p Γ, q Γ with
  | some d, some ds => some (d :: ds)
  | _, _ => none
theorem tap_nil {X : Cx} : PA X [] (TAP K cl pNil) := pa_nil.weak fun σ H Q ⟨Pn, G0, Fr, Γ, Ts, G, fs, r, ds, hp, q⟩ => by
  cases hp
  exact q [] rfl
theorem tap_cons {X : Cx} {e : Expr} {es : List Expr} {p : PM D} {q : PM (List D)} (h : PE X e (TP K cl p)) (t : PA X es (TAP K cl q)) (hs : starEach (e :: es) X.env = (false, eval e X.env) :: starEach es X.env) : PA X (e :: es) (TAP K cl (pCons p q)) := by
  refine (pa_cons h t hs).weak fun σ H Q ⟨Pn, G0, Fr, Γ, Ts, G, fs, r, ds, hp, k⟩ => ?_
  unfold pCons at hp
  cases h1 : p Γ with
  | none => rw [h1] at hp; cases hp
  | some d =>
    cases h2 : q Γ with
    | none => rw [h1, h2] at hp; cases hp
    | some ds' =>
      rw [h1, h2] at hp
      cases hp
      exact ⟨Pn, G0, Fr, Γ, Ts, G, fs, r, d, h1, fun v f o => ⟨Pn, G0, Fr, Γ, Ts, G, fs, r, ds', h2, fun vs ea => k (v :: vs) ⟨v, vs, rfl, ⟨f, o⟩, ea⟩⟩⟩
theorem tax_P {X : Cx} {es : List Expr} {q : PM (List D)} {W : List Nat} (t : PA X es (TAP K cl q)) : PA X es (TAX K cl E W (mP q)) := by
  refine t.weak fun σ H Q ⟨Pn, G0, Fr, Γ, Ts, G, fs, Ex, r, ex, k⟩ => ?_
  obtain ⟨ds, hq, k⟩ := Sat.mP.mp k
  exact ⟨Pn, G0, Fr, Γ, Ts, G, fs, r, ds, hq, fun vs ea => k vs [] H G fs r Keep.refl ea⟩
def mCons (m : M D) (n : M (List D)) : M (List D) := do let d ← m; let ds ← n; pure (fz d :: ds)
theorem tax_cons {X : Cx} {e : Expr} {es : List Expr} {m : M D} {n : M (List D)} {W1 W2 W : List Nat} (w1 : ∀ j ∈ W1, j ∈ W) (w2 : ∀ j ∈ W2, j ∈ W) (h : PE X e (TX K cl E W1 m)) (t : PA X es (TAX K cl E W2 n))
    (hs : starEach (e :: es) X.env = (false, eval e X.env) :: starEach es X.env) : PA X (e :: es) (TAX K cl E W (mCons m n)) := by
  refine (pa_cons h t hs).weak fun σ H Q ⟨Pn, G0, Fr, Γ, Ts, G, fs, Ex, r, ex, k⟩ => ?_
  refine ⟨Pn, G0, Fr, Γ, Ts, G, fs, Ex, r, ex, (Sat.bind.mp k).imp fun d Γ1 k v H1 G1 fs1 r1 k1 => ?_⟩
  obtain ⟨G2, r2⟩ := r1.fz
  refine ⟨Pn, G0, Fr, Γ1, _, G2, fs1, Ex, r2, ex, (Sat.bind.mp k).imp fun ds Γ2 k vs Us H3 G3 fs3 r3 k3 ea => ?_⟩
  have r4 : Rel K cl G3 H3 Pn G0 Fr Γ2 ((Us ++ [(fz d, v)]) ++ Ts) σ fs3 := by rw [List.append_assoc]; exact r3
  exact (Sat.pure.mp k) (v :: vs) (Us ++ [(fz d, v)]) H3 G3 fs3 r4 ((k1.mono w1).trans (k3.mono w2)) ⟨v, vs, rfl, r4.mem (List.mem_append_left _ (List.mem_append_right _ (.head _))), ea⟩
theorem TAX.mono {W W' : List Nat} {m : M (List D)} (h : ∀ j ∈ W, j ∈ W') {σ : L2.St} {H : Hp} {Q : List V → Hp → Prop} (t : TAX K cl E W' m σ H Q) : TAX K cl E W m σ H Q := by
  obtain ⟨Pn, G0, Fr, Γ, Ts, G, fs, Ex, r, ex, q⟩ := t
  exact ⟨Pn, G0, Fr, Γ, Ts, G, fs, Ex, r, ex, q.imp fun d Γ' z v Us H' G' fs' r' k => z v Us H' G' fs' r' (k.mono h)⟩
/-- each at hand -/
def mNil : M (List D) := pure []
/-- items of a display: they may stay one's own -/
def mConsO (m : M D) (n : M (List D)) : M (List D) := do let d ← m; let ds ← n; pure (d :: ds)
theorem tav_nil {X : Cx} {W : List Nat} : PA X [] (TAV K cl E W mNil) := pa_nil.weak fun σ H Q ⟨Pn, G0, Fr, Γ, Ts, G, fs, Ex, r, ex, q⟩ => by
  exact (Sat.pure.mp q) [] H G fs rfl r Keep.refl
theorem zip_mid {ds : List D} {vs : List V} {d : D} {v : V} {Ts : List (D × V)} : (ds.zip vs ++ (d, v) :: Ts).Perm ((d :: ds).zip (v :: vs) ++ Ts) := List.perm_middle
theorem tav_consO {X : Cx} {e : Expr} {es : List Expr} {m : M D} {n : M (List D)} {W1 W2 W : List Nat} (w1 : ∀ j ∈ W1, j ∈ W) (w2 : ∀ j ∈ W2, j ∈ W) (h : PE X e (TX K cl E W1 m)) (t : PA X es (TAV K cl E W2 n))
    (hs : starEach (e :: es) X.env = (false, eval e X.env) :: starEach es X.env) : PA X (e :: es) (TAV K cl E W (mConsO m n)) := by
  refine (pa_cons h t hs).weak fun σ H Q ⟨Pn, G0, Fr, Γ, Ts, G, fs, Ex, r, ex, k⟩ => ?_
  refine ⟨Pn, G0, Fr, Γ, Ts, G, fs, Ex, r, ex, (Sat.bind.mp k).imp fun d Γ1 k v H1 G1 fs1 r1 k1 => ?_⟩
  refine ⟨Pn, G0, Fr, Γ1, _, G1, fs1, Ex, r1, ex, (Sat.bind.mp k).imp fun ds Γ2 k vs H3 G3 fs3 l r3 k3 => ?_⟩
  exact (Sat.pure.mp k) (v :: vs) H3 G3 fs3 (by rw [List.length_cons, List.length_cons, l]) (r3.perm zip_mid) ((k1.mono w1).trans (k3.mono w2))
theorem tav_cons {X : Cx} {e : Expr} {es : List Expr} {m : M D} {n : M (List D)} {W1 W2 W : List Nat} (w1 : ∀ j ∈ W1, j ∈ W) (w2 : ∀ j ∈ W2, j ∈ W) (h : PE X e (TX K cl E W1 m)) (t : PA X es (TAV K cl E W2 n))
    (hs : starEach (e :: es) X.env = (false, eval e X.env) :: starEach es X.env) : PA X (e :: es) (TAV K cl E W (mCons m n)) := by
  refine (pa_cons h t hs).weak fun σ H Q ⟨Pn, G0, Fr, Γ, Ts, G, fs, Ex, r, ex, k⟩ => ?_
  refine ⟨Pn, G0, Fr, Γ, Ts, G, fs, Ex, r, ex, (Sat.bind.mp k).imp fun d Γ1 k v H1 G1 fs1 r1 k1 => ?_⟩
  obtain ⟨G2, r2⟩ := r1.fz
  refine ⟨Pn, G0, Fr, Γ1, _, G2, fs1, Ex, r2, ex, (Sat.bind.mp k).imp fun ds Γ2 k vs H3 G3 fs3 l r3 k3 => ?_⟩
  exact (Sat.pure.mp k) (v :: vs) H3 G3 fs3 (by rw [List.length_cons, List.length_cons, l]) (r3.perm zip_mid) ((k1.mono w1).trans (k3.mono w2))
theorem TAV.mono {W W' : List Nat} {m : M (List D)} (h : ∀ j ∈ W, j ∈ W') {σ : L2.St} {H : Hp} {Q : List V → Hp → Prop} (t : TAV K cl E W' m σ H Q) : TAV K cl E W m σ H Q := by
  obtain ⟨Pn, G0, Fr, Γ, Ts, G, fs, Ex, r, ex, q⟩ := t
  exact ⟨Pn, G0, Fr, Γ, Ts, G, fs, Ex, r, ex, q.imp fun d Γ' z v H' G' fs' l r' k => z v H' G' fs' l r' (k.mono h)⟩

/-! ### displays -/
def szok (n : Nat) : Bool := decide (n ≤ sizeLine)
def mTup (n : M (List D)) : M D := do let ds ← n; mO (if szok ds.length then some (.tup ds) else none)
def mLst (n : M (List D)) : M D := do let ds ← n; mO (if szok ds.length then some (.lst true ds) else none)
theorem tx_tup {X : Cx} {es : List Expr} {x1 : Nat} {pos : Pos} {n : M (List D)} {W : List Nat} (t : PA X es (TAV K cl E W n)) : PE X (.Tuple es x1 pos) (TX K cl E W (mTup n)) := by
  refine (pe_tup t).weak fun σ H Q ⟨Pn, G0, Fr, Γ, Ts, G, fs, Ex, r, ex, k⟩ => ?_
  refine ⟨Pn, G0, Fr, Γ, Ts, G, fs, Ex, r, ex, (Sat.bind.mp k).imp fun ds Γ1 k vs H1 G1 fs1 l r1 k1 => ?_⟩
  obtain ⟨z, hz, k⟩ := Sat.mO.mp k
  split at hz
  · rename_i hs
    cases hz
    refine ⟨by rw [← l]; exact of_decide_eq_true hs, fun p hp => ?_⟩
    obtain ⟨r2, k2⟩ := r1.newTup l hp
    exact k _ _ _ _ r2 (k1.trans (k2.mono fun j m => by cases m))
  · cases hz
theorem tx_lst {X : Cx} {es : List Expr} {pos : Pos} {n : M (List D)} {W : List Nat} (t : PA X es (TAV K cl E W n)) : PE X (.List es pos) (TX K cl E W (mLst n)) := by
  refine (pe_lst t).weak fun σ H Q ⟨Pn, G0, Fr, Γ, Ts, G, fs, Ex, r, ex, k⟩ => ?_
  refine ⟨Pn, G0, Fr, Γ, Ts, G, fs, Ex, r, ex, (Sat.bind.mp k).imp fun ds Γ1 k vs H1 G1 fs1 l r1 k1 => ?_⟩
  obtain ⟨z, hz, k⟩ := Sat.mO.mp k
  split at hz
  · rename_i hs
    cases hz
    refine ⟨by rw [← l]; exact of_decide_eq_true hs, fun p hp => ?_⟩
    obtain ⟨r2, k2⟩ := r1.newOwn (d := .lst true ds) (o := .lst vs) hp (fun _ z => nomatch z) fun f t => ⟨p, vs, f, rfl, upd_same, r1.gn hp, rfl, t.owns l⟩
    exact k _ _ _ _ r2 (k1.trans (k2.mono fun j m => by cases m))
  · cases hz
def mDicE (t : Bool) : M D := pure (.dic true t [] [])
theorem tx_dicE {X : Cx} {pos : Pos} {W : List Nat} {t : Bool} : PE X (.Dict [] [] pos) (TX K cl E W (mDicE t)) := by
  cases t with
  | false =>
    refine pe_dnewK.weak fun σ H Q ⟨Pn, G0, Fr, Γ, Ts, G, fs, Ex, r, ex, k⟩ p hp => ?_
    have dk : DicOk false [] (.dK []) [] := ⟨[], rfl, rfl, rfl, List.nodup_nil⟩
    obtain ⟨G', r2, k2⟩ := r.new (z := .dic true false [] []) (o := .dK []) hp ⟨[], dk, rfl, rfl⟩
    exact (Sat.pure.mp k) _ _ G' _ r2 (k2.mono fun j m => by cases m)
  | true =>
    refine pe_dnewT.weak fun σ H Q ⟨Pn, G0, Fr, Γ, Ts, G, fs, Ex, r, ex, k⟩ p hp => ?_
    have dk : DicOk true [] (.dT []) [] := ⟨[], rfl, rfl, rfl, List.nodup_nil⟩
    obtain ⟨G', r2, k2⟩ := r.new (z := .dic true true [] []) (o := .dT []) hp ⟨[], dk, rfl, rfl⟩
    exact (Sat.pure.mp k) _ _ G' _ r2 (k2.mono fun j m => by cases m)

/-! ### data as the model's data -/
mutual
def py : D → PyData
  | .non => .none | .bl b => .bool b | .int i => .int i | .str s => .str s
  | .tup xs => .tuple (pys xs) | .ktp xs => .tuple (pys xs) | .lst _ xs => .list (pys xs) | .klst xs => .list (pys xs)
  | .dic _ _ _ _ => .dict [] | .ins _ _ _ _ => .dict [] | .exc _ => .dict [] | .ty _ => .dict [] | .cls _ => .dict []
def pys : List D → List PyData
  | [] => []
  | d :: ds => py d :: pys ds
end
theorem pys_map : ∀ ds, pys ds = ds.map py
  | [] => rfl
  | d :: ds => by simp only [pys, List.map_cons, pys_map ds]
mutual
theorem Own.reads {X : Cx} {pins : List (Addr × Obj)} {σ : L2.St} {H G : Hp} {s : Shared} (I : Inv X pins σ H s) (sb : Sub G H) : ∀ (d : D) (v : V) (f : List Addr) (u : Value), (py d).plain = true → Own X.K cl G H d v f → RelV v u → ∃ as, Reads s.heap u (py d) as
  | .non, _, _, _, _, h, r => by obtain ⟨rfl, _⟩ := h; cases r; exact ⟨_, Reads.none⟩
  | .bl b, _, _, _, _, h, r => by obtain ⟨rfl, _⟩ := h; cases r; exact ⟨_, Reads.bool b⟩
  | .int i, _, _, _, _, h, r => by obtain ⟨rfl, _⟩ := h; obtain ⟨t, rfl⟩ := r; exact ⟨_, Reads.int i t⟩
  | .str x, _, _, _, _, h, r => by obtain ⟨rfl, _⟩ := h; obtain ⟨t, rfl⟩ := r; exact ⟨_, Reads.str x t⟩
  | .tup ds, _, _, _, hp, h, r => by
    obtain ⟨a, xs, rfl, hq, ow⟩ := h
    cases r
    obtain ⟨its, rv, ⟨o, ho, hc, n, hd⟩, _⟩ := I.tuple (.inl (.inl (sb _ _ hq)))
    obtain ⟨as, hr⟩ := Owns.reads I sb ds _ _ its (by simpa only [py, PyData.plain] using hp) ow rv
    exact ⟨_, Reads.tuple ho hc hd hr⟩
  | .ktp ds, _, _, _, hp, h, r => by
    obtain ⟨a, xs, rfl, hq, ow⟩ := h
    cases r
    obtain ⟨its, rv, ⟨o, ho, hc, n, hd⟩, _⟩ := I.tuple (sb.seqT hq)
    obtain ⟨as, hr⟩ := Owns.reads I sb ds _ _ its (by simpa only [py, PyData.plain] using hp) ow rv
    exact ⟨_, Reads.tuple ho hc hd hr⟩
  | .lst true ds, _, _, _, hp, h, r => by
    obtain ⟨a, xs, f, rfl, hq, _, _, ow⟩ := h
    cases r
    obtain ⟨its, rv, ⟨o, n, ho, hc, _, hd⟩, _⟩ := I.list (.inl (.inl hq))
    obtain ⟨as, hr⟩ := Owns.reads I sb ds _ _ its (by simpa only [py, PyData.plain] using hp) ow rv
    exact ⟨_, Reads.list ho hc hd hr⟩
  | .lst false ds, _, _, _, hp, h, r => by
    obtain ⟨a, xs, rfl, hq, ow⟩ := h
    cases r
    obtain ⟨its, rv, ⟨o, n, ho, hc, _, hd⟩, _⟩ := I.list (.inl (.inl (sb _ _ hq)))
    obtain ⟨as, hr⟩ := Owns.reads I sb ds _ _ its (by simpa only [py, PyData.plain] using hp) ow rv
    exact ⟨_, Reads.list ho hc hd hr⟩
  | .klst ds, _, _, _, hp, h, r => by
    obtain ⟨a, xs, rfl, hq, ow⟩ := h
    cases r
    obtain ⟨its, rv, ⟨o, n, ho, hc, _, hd⟩, _⟩ := I.list (sb.seqL hq)
    obtain ⟨as, hr⟩ := Owns.reads I sb ds _ _ its (by simpa only [py, PyData.plain] using hp) ow rv
    exact ⟨_, Reads.list ho hc hd hr⟩
  | .dic _ _ _ _, _, _, _, hp, _, _ => by simp [py, PyData.plain] at hp
  | .ins _ _ _ _, _, _, _, hp, _, _ => by simp [py, PyData.plain] at hp
  | .exc _, _, _, _, hp, _, _ => by simp [py, PyData.plain] at hp
  | .ty _, _, _, _, hp, _, _ => by simp [py, PyData.plain] at hp
  | .cls _, _, _, _, hp, _, _ => by simp [py, PyData.plain] at hp
theorem Owns.reads {X : Cx} {pins : List (Addr × Obj)} {σ : L2.St} {H G : Hp} {s : Shared} (I : Inv X pins σ H s) (sb : Sub G H) : ∀ (ds : List D) (vs : List V) (f : List Addr) (us : List Value), PyData.plainAll (pys ds) = true → Owns X.K cl G H ds vs f → Vals vs us → ∃ as, ReadsAll s.heap us (pys ds) as
  | [], _, _, _, _, h, r => by obtain ⟨rfl, _⟩ := h; cases r; exact ⟨_, ReadsAll.nil⟩
  | d :: ds, _, _, _, hp, h, r => by
    obtain ⟨x, xr, f1, f2, rfl, rfl, h1, h2⟩ := h
    simp only [pys, PyData.plainAll, Bool.and_eq_true] at hp
    cases r with
    | cons r1 r2 =>
      obtain ⟨as, q1⟩ := Own.reads I sb d _ _ _ hp.1 h1 r1
      obtain ⟨bs, q2⟩ := Owns.reads I sb ds _ _ _ hp.2 h2 r2
      exact ⟨_, ReadsAll.cons q1 q2⟩
end
/-- data of no great depth, without dicts -/
def okD (d : D) : Bool := (py d).plain && decide ((py d).depth ≤ 64)
theorem okD_of {d : D} (h : okD d = true) : (py d).plain = true ∧ (py d).depth ≤ 64 := by
  unfold okD at h
  simp only [Bool.and_eq_true, decide_eq_true_eq] at h
  exact h

/-! ### comparisons by data -/
def eqX (d e : D) : Option D := if okD d && okD e then some (.bl (PyData.eqv (py d) (py e))) else none
def neX (d e : D) : Option D := if okD d && okD e then some (.bl (!PyData.eqv (py d) (py e))) else none
theorem atom_bl {X : Cx} {G H : Hp} {b : Bool} {Q : VK} {pins : List (Addr × Obj)} {σ : L2.St} {s : Shared} (I : Inv X pins σ H s) (q : ∀ w fw, Own X.K cl G H (.bl b) w fw → Q w H) : EP X pins σ Q (.bool b) s := ⟨.bl b, H, I, rfl, q (.bl b) [] ⟨rfl, rfl⟩⟩
theorem atom_int {X : Cx} {G H : Hp} {i : Int} {Q : VK} {pins : List (Addr × Obj)} {σ : L2.St} {s : Shared} (I : Inv X pins σ H s) (q : ∀ w fw, Own X.K cl G H (.int i) w fw → Q w H) (t : Tok) : EP X pins σ Q (.int i t) s := ⟨.int i, H, I, ⟨t, rfl⟩, q (.int i) [] ⟨rfl, rfl⟩⟩
theorem ops_eq {X : Cx} (hu : X.A.units + 66 < cLine) : OpS X cl (compareOp .Eq) eqX := by
  intro pins s σ H G x y v u d e z fx fy Q I rx ry sb tg ox oy eg q
  unfold eqX at eg
  split at eg
  · rename_i h
    cases eg
    simp only [Bool.and_eq_true] at h
    obtain ⟨p1, d1⟩ := okD_of h.1
    obtain ⟨p2, d2⟩ := okD_of h.2
    obtain ⟨as, r1⟩ := Own.reads I sb d x fx v p1 ox rx
    obtain ⟨bs, r2⟩ := Own.reads I sb e y fy u p2 oy ry
    exact SeqAt.eq_plain r1 r2 p1 p2 (by have := Nat.min_le_left (py d).depth (py e).depth; omega) (atom_bl I q)
  · cases eg
theorem ops_ne {X : Cx} (hu : X.A.units + 66 < cLine) : OpS X cl (compareOp .NotEq) neX := by
  intro pins s σ H G x y v u d e z fx fy Q I rx ry sb tg ox oy eg q
  unfold neX at eg
  split at eg
  · rename_i h
    cases eg
    simp only [Bool.and_eq_true] at h
    obtain ⟨p1, d1⟩ := okD_of h.1
    obtain ⟨p2, d2⟩ := okD_of h.2
    obtain ⟨as, r1⟩ := Own.reads I sb d x fx v p1 ox rx
    obtain ⟨bs, r2⟩ := Own.reads I sb e y fy u p2 oy ry
    exact SeqAt.ne_plain r1 r2 p1 p2 (by have := Nat.min_le_left (py d).depth (py e).depth; omega) (atom_bl I q)
  · cases eg
/-- ints -/
def iiB (p : Int → Int → Bool) (d e : D) : Option D := match d, e with
  | .int i, .int j => some (.bl (p i j))
  | _, _ => none
def iiI (C : Int → Int → Bool) (g : Int → Int → Int) (d e : D) : Option D := match d, e with
  | .int i, .int j => if C i j then some (.int (g i j)) else none
  | _, _ => none
theorem ops_iiB {X : Cx} {f : Value → Value → Sem Value} {p : Int → Int → Bool} (h : OpR X f (rI0 fun i j => .bl (p i j))) : OpS X cl f (iiB p) := by
  intro pins s σ H G x y v u d e z fx fy Q I rx ry sb tg ox oy eg q
  unfold iiB at eg
  split at eg
  · cases eg
    obtain ⟨rfl, _⟩ := ox
    obtain ⟨rfl, _⟩ := oy
    exact h pins s σ H _ _ v u Q I rx ry ⟨_, _, rfl, rfl, q _ [] ⟨rfl, rfl⟩⟩
  · cases eg
theorem ops_iiI {X : Cx} {f : Value → Value → Sem Value} {C : Int → Int → Bool} {P : Int → Int → Prop} {g : Int → Int → Int} (h : OpR X f (rI P fun i j => .int (g i j))) (hC : ∀ i j, C i j = true → P i j) : OpS X cl f (iiI C g) := by
  intro pins s σ H G x y v u d e z fx fy Q I rx ry sb tg ox oy eg q
  unfold iiI at eg
  split at eg
  · split at eg
    · rename_i hc
      cases eg
      obtain ⟨rfl, _⟩ := ox
      obtain ⟨rfl, _⟩ := oy
      exact h pins s σ H _ _ v u Q I rx ry ⟨_, _, rfl, rfl, hC _ _ hc, q _ [] ⟨rfl, rfl⟩⟩
    · cases eg
  · cases eg
theorem ops_iiI0 {X : Cx} {f : Value → Value → Sem Value} {g : Int → Int → Int} (h : OpR X f (rI0 fun i j => .int (g i j))) : OpS X cl f (iiI (fun _ _ => true) g) := by
  intro pins s σ H G x y v u d e z fx fy Q I rx ry sb tg ox oy eg q
  unfold iiI at eg
  split at eg
  · cases eg
    obtain ⟨rfl, _⟩ := ox
    obtain ⟨rfl, _⟩ := oy
    exact h pins s σ H _ _ v u Q I rx ry ⟨_, _, rfl, rfl, q _ [] ⟨rfl, rfl⟩⟩
  · cases eg

/-! ### in -/
def inX (neg : Bool) (d e : D) : Option D := match e with
  | .lst _ es | .klst es | .tup es | .ktp es => if okD d && okD e then some (.bl (neg ^^ es.any fun z => PyData.eqv (py z) (py d))) else none
  | _ => none
theorem any_pys (es : List D) (d : PyData) : ((pys es).any fun z => PyData.eqv z d) = es.any fun z => PyData.eqv (py z) d := by
  rw [pys_map, List.any_map]
  rfl
theorem ops_in {X : Cx} (hu : X.A.units + 66 < cLine) : OpS X cl (compareOp .In) (inX false) := by
  intro pins s σ H G x y v u d e z fx fy Q I rx ry sb tg ox oy eg q
  have room : ∀ {n : Nat}, (py d).depth ≤ 64 → X.A.units + 1 + min n (py d).depth < cLine := fun {n} h => by have := Nat.min_le_right n (py d).depth; omega
  have fin : ∀ es : List D, (py e = .list (pys es) ∨ py e = .tuple (pys es)) → (if (okD d && okD e) = true then some (D.bl (false ^^ es.any fun z => PyData.eqv (py z) (py d))) else none) = some z → wpAny (model X.prog X.w) X.A (compareOp .In v u) (EP X pins σ Q) X.xe s := fun es he eg => by
    split at eg
    · rename_i h
      cases eg
      simp only [Bool.and_eq_true] at h
      obtain ⟨p1, d1⟩ := okD_of h.1
      obtain ⟨p2, d2⟩ := okD_of h.2
      obtain ⟨as, r1⟩ := Own.reads I sb d x fx v p1 ox rx
      obtain ⟨bs, r2⟩ := Own.reads I sb e y fy u p2 oy ry
      rcases he with he | he
      · rw [he] at r2 p2
        refine SeqAt.in_list_data r2 r1 (by simpa only [PyData.plain] using p2) p1 (room d1) ?_
        rw [any_pys]
        simp only [Bool.false_xor] at q
        exact atom_bl I q
      · rw [he] at r2 p2
        refine SeqAt.in_tuple_data r2 r1 (by simpa only [PyData.plain] using p2) p1 (room d1) ?_
        rw [any_pys]
        simp only [Bool.false_xor] at q
        exact atom_bl I q
    · cases eg
  unfold inX at eg
  cases e with
  | lst o es => exact fin es (.inl rfl) eg
  | klst es => exact fin es (.inl rfl) eg
  | tup es => exact fin es (.inr rfl) eg
  | ktp es => exact fin es (.inr rfl) eg
  | _ => cases eg
theorem ops_notIn {X : Cx} (hu : X.A.units + 66 < cLine) : OpS X cl (compareOp .NotIn) (inX true) := by
  intro pins s σ H G x y v u d e z fx fy Q I rx ry sb tg ox oy eg q
  have room : ∀ {n : Nat}, (py d).depth ≤ 64 → X.A.units + 1 + min n (py d).depth < cLine := fun {n} h => by have := Nat.min_le_right n (py d).depth; omega
  have fin : ∀ es : List D, (py e = .list (pys es) ∨ py e = .tuple (pys es)) → (if (okD d && okD e) = true then some (D.bl (true ^^ es.any fun z => PyData.eqv (py z) (py d))) else none) = some z → wpAny (model X.prog X.w) X.A (compareOp .NotIn v u) (EP X pins σ Q) X.xe s := fun es he eg => by
    split at eg
    · rename_i h
      cases eg
      simp only [Bool.and_eq_true] at h
      obtain ⟨p1, d1⟩ := okD_of h.1
      obtain ⟨p2, d2⟩ := okD_of h.2
      obtain ⟨as, r1⟩ := Own.reads I sb d x fx v p1 ox rx
      obtain ⟨bs, r2⟩ := Own.reads I sb e y fy u p2 oy ry
      rcases he with he | he
      · rw [he] at r2 p2
        refine SeqAt.notIn_list_data r2 r1 (by simpa only [PyData.plain] using p2) p1 (room d1) ?_
        rw [any_pys]
        simp only [Bool.true_xor] at q
        exact atom_bl I q
      · rw [he] at r2 p2
        refine SeqAt.notIn_tuple_data r2 r1 (by simpa only [PyData.plain] using p2) p1 (room d1) ?_
        rw [any_pys]
        simp only [Bool.true_xor] at q
        exact atom_bl I q
    · cases eg
  unfold inX at eg
  cases e with
  | lst o es => exact fin es (.inl rfl) eg
  | klst es => exact fin es (.inl rfl) eg
  | tup es => exact fin es (.inr rfl) eg
  | ktp es => exact fin es (.inr rfl) eg
  | _ => cases eg
/-- .. of a dict's keys -/
def keyD : D → Option Key
  | .int i => some (.inl i)
  | .str s => some (.inr s)
  | _ => none
theorem keyD_some {d : D} {k : Key} (h : keyD d = some k) : d = kD k := by
  cases d <;> simp only [keyD] at h <;> cases h <;> rfl
theorem keyD_kD (k : Key) : keyD (kD k) = some k := by cases k <;> rfl
theorem kD_inj {a b : Key} (h : kD a = kD b) : a = b := Option.some.inj (by rw [← keyD_kD, ← keyD_kD, h])
def keysD : List D → Option (List Key)
  | [] => some []
  | d :: ds => match keyD d, keysD ds with
    | some k, some ks => some (k :: ks)
    | _, _ => none
theorem keysD_some : ∀ {ds : List D} {ks : List Key}, keysD ds = some ks → ds = ks.map kD
  | [], ks, h => by cases h; rfl
  | d :: ds, ks, h => by
    simp only [keysD] at h
    split at h
    · rename_i k ks' e1 e2
      cases h
      rw [List.map_cons, ← keyD_some e1, ← keysD_some e2]
    · cases h
end
end PX

namespace PX
open PySem PySem.Spec PyProof.Rows L2

/-! ### keys of dicts -/
def sameK : D → D → Bool
  | .int i, .int j => decide (i = j)
  | .str s, .str t => decide (s = t)
  | .tup xs, .tup ys => match keysD xs, keysD ys with
    | some a, some b => decide (a = b)
    | _, _ => false
  | _, _ => false
def keyOk (t : Bool) : D → Bool
  | .int _ => !t
  | .str _ => !t
  | .tup ds => t && (keysD ds).isSome
  | _ => false
def hasK (k : D) (ks : List D) : Bool := ks.any fun z => sameK z k
def findK (k : D) : List D → List D → Option D
  | z :: ks, x :: xs => if sameK z k then some x else findK k ks xs
  | _, _ => none
theorem keysD_map : ∀ ks : List Key, keysD (ks.map kD) = some ks
  | [] => rfl
  | k :: ks => by rw [List.map_cons]; unfold keysD; rw [keyD_kD, keysD_map ks]
theorem sameK_k (a b : Key) : sameK (kD a) (kD b) = decide (a = b) := by
  cases a <;> cases b <;> simp [sameK, kD]
theorem sameK_t (a b : List Key) : sameK (.tup (a.map kD)) (.tup (b.map kD)) = decide (a = b) := by
  unfold sameK
  simp only [keysD_map]
section
variable {K : PySem.W.Frag} {cl : Clss} {G H : Hp}
theorem Own.key {k : Key} {v : V} {f : List Addr} (h : Own K cl G H (kD k) v f) : v = kV k ∧ f = [] := by
  cases k with
  | inl i => exact h
  | inr s => exact h
theorem Owns.keys : ∀ {ks : List Key} {vs : List V} {f : List Addr}, Owns K cl G H (ks.map kD) vs f → vs = ks.map kV ∧ f = []
  | [], _, _, h => h
  | k :: ks, _, _, h => by
    obtain ⟨x, r, f1, f2, rfl, rfl, h1, h2⟩ := h
    obtain ⟨rfl, rfl⟩ := h1.key
    obtain ⟨rfl, rfl⟩ := Owns.keys h2
    exact ⟨rfl, rfl⟩
/-- what a look-up of a dict tells, in the layer's words and in mine -/
theorem find_kv {κ : Type} [DecidableEq κ] (enc : κ → D) (he : ∀ a b, sameK (enc a) (enc b) = decide (a = b)) (k : κ) : ∀ (kv : List (κ × V)) (ds : List D) (f : List Addr), Owns K cl G H ds (kv.map (·.2)) f →
    (match findK (enc k) (kv.map fun p => enc p.1) ds with
      | some d => ∃ x g, valV kv k = some x ∧ Own K cl G H d x g ∧ ∀ a ∈ g, a ∈ f
      | none => valV kv k = none) ∧ hasK (enc k) (kv.map fun p => enc p.1) = (valV kv k).isSome
  | [], ds, f, h => by
    simp [findK, hasK, valV_nil]
  | p :: kv, [], f, h => by
    have q := h.1
    simp at q
  | p :: kv, d :: ds, f, h => by
    obtain ⟨x, r, f1, f2, e, rfl, h1, h2⟩ := h
    simp only [List.map_cons, List.cons.injEq] at e
    obtain ⟨rfl, rfl⟩ := e
    have ih := find_kv enc he k kv ds f2 h2
    simp only [List.map_cons, findK, hasK, List.any_cons, he]
    by_cases e : p.1 = k
    · rw [decide_eq_true e, if_pos rfl, valV_pos e]
      exact ⟨⟨p.2, f1, rfl, h1, fun a m => List.mem_append_left _ m⟩, rfl⟩
    · rw [decide_eq_false e, if_neg Bool.false_ne_true, valV_neg e]
      refine ⟨?_, by simpa [hasK] using ih.2⟩
      have ih1 := ih.1
      split at ih1
      · rename_i d' e'
        obtain ⟨x, g, q1, q2, q3⟩ := ih1
        exact ⟨x, g, q1, q2, fun a m => List.mem_append_right _ (q3 a m)⟩
      · exact ih1
/-- a look-up of a dict that may be read -/
theorem dic_look (sb : Sub G H) {t : Bool} {ks ds : List D} {u : HO} {xs : List V} {a : Addr} {f g : List Addr} {k : D} {y : V} (dk : DicOk t ks u xs) (rd : Rd H a u) (ow : Owns K cl G H ds xs f) (ok : keyOk t k = true) (oy : Own K cl G H k y g) :
    ∃ o, DGet H a y o ∧ hasK k ks = o.isSome ∧ (match findK k ks ds with
      | some d => ∃ x h, o = some x ∧ Own K cl G H d x h ∧ ∀ b ∈ h, b ∈ f
      | none => o = none) := by
  cases t with
  | false =>
    obtain ⟨kv, rfl, rfl, rfl, _⟩ := dk
    have : ∃ κ : Key, k = kD κ := by
      cases k with
      | int i => exact ⟨.inl i, rfl⟩
      | str s => exact ⟨.inr s, rfl⟩
      | tup ds => simp [keyOk] at ok
      | _ => cases ok
    obtain ⟨κ, rfl⟩ := this
    obtain ⟨rfl, rfl⟩ := oy.key
    have q := find_kv kD sameK_k κ kv ds f ow
    exact ⟨valV kv κ, .inl ⟨kv, κ, rd, rfl, rfl⟩, q.2, q.1⟩
  | true =>
    obtain ⟨kv, rfl, rfl, rfl, _⟩ := dk
    have : ∃ κ : List Key, k = .tup (κ.map kD) := by
      cases k with
      | int i => simp [keyOk] at ok
      | str s => simp [keyOk] at ok
      | tup ds =>
        simp only [keyOk, Bool.true_and] at ok
        obtain ⟨κ, e⟩ := Option.isSome_iff_exists.mp ok
        exact ⟨κ, by rw [keysD_some e]⟩
      | _ => cases ok
    obtain ⟨κ, rfl⟩ := this
    obtain ⟨b, zs, rfl, eb, oz⟩ := oy
    obtain ⟨rfl, rfl⟩ := oz.keys
    have q := find_kv (fun κ : List Key => .tup (κ.map kD)) sameK_t κ kv ds f ow
    exact ⟨valV kv κ, .inr ⟨kv, κ, b, rd, rfl, sb _ _ eb, rfl⟩, q.2, q.1⟩
/-- a dict, one's own or not: its object may be read -/
theorem Own.dic (sb : Sub G H) {o t : Bool} {ks ds : List D} {v : V} {f : List Addr} (h : Own K cl G H (.dic o t ks ds) v f) : ∃ a u xs g, v = .ref a ∧ Rd H a u ∧ DicOk t ks u xs ∧ Owns K cl G H ds xs g ∧ ∀ b ∈ g, b ∈ f := by
  cases o with
  | true =>
    obtain ⟨a, u, xs, g, rfl, e, _, dk, rfl, ow⟩ := h
    exact ⟨a, u, xs, g, rfl, .inl e, dk, ow, fun b m => .tail _ m⟩
  | false =>
    obtain ⟨a, u, xs, rfl, e, dk, ow⟩ := h
    exact ⟨a, u, xs, f, rfl, sb.rd e, dk, ow, fun b m => m⟩
/-- a list, a tuple that may be read -/
def seqD : D → Option (List D)
  | .lst _ ds => some ds
  | .tup ds => some ds
  | .ktp ds => some ds
  | .klst ds => some ds
  | _ => none
theorem Own.seq (sb : Sub G H) {d : D} {ds : List D} {v : V} {f : List Addr} (hd : seqD d = some ds) (h : Own K cl G H d v f) : ∃ a xs g, v = .ref a ∧ (SqL K H a xs ∨ SqT K H a xs) ∧ Owns K cl G H ds xs g ∧ ∀ b ∈ g, b ∈ f := by
  cases d with
  | lst o es =>
    cases hd
    cases o with
    | true =>
      obtain ⟨a, xs, g, rfl, e, _, rfl, ow⟩ := h
      exact ⟨a, xs, g, rfl, .inl (.inl (.inl e)), ow, fun b m => .tail _ m⟩
    | false =>
      obtain ⟨a, xs, rfl, e, ow⟩ := h
      exact ⟨a, xs, f, rfl, .inl (.inl (.inl (sb _ _ e))), ow, fun b m => m⟩
  | tup es =>
    cases hd
    obtain ⟨a, xs, rfl, e, ow⟩ := h
    exact ⟨a, xs, f, rfl, .inr (.inl (.inl (sb _ _ e))), ow, fun b m => m⟩
  | ktp es =>
    cases hd
    obtain ⟨a, xs, rfl, e, ow⟩ := h
    exact ⟨a, xs, f, rfl, .inr (sb.seqT e), ow, fun b m => m⟩
  | klst es =>
    cases hd
    obtain ⟨a, xs, rfl, e, ow⟩ := h
    exact ⟨a, xs, f, rfl, .inl (sb.seqL e), ow, fun b m => m⟩
  | _ => cases hd
end

section
variable {X : Cx} {cl : Clss}
/-! ### in -/
def inX2 (neg : Bool) (d e : D) : Option D := match e with
  | .dic _ t ks _ => if keyOk t d then some (.bl (neg ^^ hasK d ks)) else none
  | _ => inX neg d e
theorem ops_in2 (hu : X.A.units + 66 < cLine) : OpS X cl (compareOp .In) (inX2 false) := by
  intro pins s σ H G x y v u d e z fx fy Q I rx ry sb tg ox oy eg q
  cases e with
  | dic o t ks ds =>
    simp only [inX2] at eg
    split at eg
    · rename_i ok
      cases eg
      obtain ⟨a, u', xs, g, rfl, rd, dk, ow, _⟩ := oy.dic sb
      cases ry
      obtain ⟨r, hg, hh, _⟩ := dic_look sb dk rd ow ok ox
      refine d_in (by omega) I hg rx fun s' I' => ?_
      rw [← hh]
      simp only [Bool.false_xor] at q
      exact atom_bl I' q
    · cases eg
  | _ => exact ops_in hu pins s σ H G x y v u d _ z fx fy Q I rx ry sb tg ox oy eg q
theorem ops_notIn2 (hu : X.A.units + 66 < cLine) : OpS X cl (compareOp .NotIn) (inX2 true) := by
  intro pins s σ H G x y v u d e z fx fy Q I rx ry sb tg ox oy eg q
  cases e with
  | dic o t ks ds =>
    simp only [inX2] at eg
    split at eg
    · rename_i ok
      cases eg
      obtain ⟨a, u', xs, g, rfl, rd, dk, ow, _⟩ := oy.dic sb
      cases ry
      obtain ⟨r, hg, hh, _⟩ := dic_look sb dk rd ow ok ox
      refine d_notIn (by omega) I hg rx fun s' I' => ?_
      rw [← hh]
      simp only [Bool.true_xor] at q
      exact atom_bl I' q
    · cases eg
  | _ => exact ops_notIn hu pins s σ H G x y v u d _ z fx fy Q I rx ry sb tg ox oy eg q
/-! ### is, is not: None, True, False -/
def nonD : D → Bool
  | .non => true
  | _ => false
def isX (neg : Bool) (d e : D) : Option D := match d, e with
  | d, .non => some (.bl (neg ^^ nonD d))
  | .bl a, .bl b => some (.bl (neg ^^ decide (a = b)))
  | _, _ => none
theorem Own.isNon {K : PySem.W.Frag} {G H : Hp} {d : D} {x : V} {f : List Addr} (h : Own K cl G H d x f) : decide (x = .non) = nonD d := by
  cases d with
  | non => obtain ⟨rfl, _⟩ := h; rfl
  | bl b => obtain ⟨rfl, _⟩ := h; rfl
  | int i => obtain ⟨rfl, _⟩ := h; rfl
  | str s => obtain ⟨rfl, _⟩ := h; rfl
  | ty s => obtain ⟨rfl, _⟩ := h; rfl
  | cls s => obtain ⟨rfl, _⟩ := h; rfl
  | tup ds => obtain ⟨a, xs, rfl, _⟩ := h; rfl
  | ktp ds => obtain ⟨a, xs, rfl, _⟩ := h; rfl
  | klst ds => obtain ⟨a, xs, rfl, _⟩ := h; rfl
  | lst o ds => cases o <;> (first | (obtain ⟨a, xs, f', rfl, _⟩ := h; rfl) | (obtain ⟨a, xs, rfl, _⟩ := h; rfl))
  | dic o t ks ds => cases o <;> (first | (obtain ⟨a, u, xs, f', rfl, _⟩ := h; rfl) | (obtain ⟨a, u, xs, rfl, _⟩ := h; rfl))
  | ins o c ns ds => cases o <;> (first | (obtain ⟨a, u, xs, f', rfl, _⟩ := h; rfl) | (obtain ⟨a, u, xs, rfl, _⟩ := h; rfl))
  | exc c => exact h.elim
theorem ops_is : OpS X cl (compareOp .Is) (isX false) := by
  intro pins s σ H G x y v u d e z fx fy Q I rx ry sb tg ox oy eg q
  unfold isX at eg
  split at eg
  · cases eg
    obtain ⟨rfl, _⟩ := oy
    refine op_isN pins s σ H x _ v u Q I rx ry ⟨rfl, ?_⟩
    rw [ox.isNon]
    simp only [Bool.false_xor] at q
    exact q _ [] ⟨rfl, rfl⟩
  · cases eg
    obtain ⟨rfl, _⟩ := oy
    obtain ⟨rfl, _⟩ := ox
    refine op_is_bl pins s σ H _ _ v u Q I rx ry ⟨_, _, rfl, rfl, ?_⟩
    simp only [Bool.false_xor] at q
    exact q _ [] ⟨rfl, rfl⟩
  · cases eg
theorem ops_isNot : OpS X cl (compareOp .IsNot) (isX true) := by
  intro pins s σ H G x y v u d e z fx fy Q I rx ry sb tg ox oy eg q
  unfold isX at eg
  split at eg
  · cases eg
    obtain ⟨rfl, _⟩ := oy
    refine op_notN pins s σ H x _ v u Q I rx ry ⟨rfl, ?_⟩
    rw [ox.isNon]
    simp only [Bool.true_xor] at q
    exact q _ [] ⟨rfl, rfl⟩
  · cases eg
    obtain ⟨rfl, _⟩ := oy
    obtain ⟨rfl, _⟩ := ox
    refine op_isnot_bl pins s σ H _ _ v u Q I rx ry ⟨_, _, rfl, rfl, ?_⟩
    simp only [Bool.true_xor] at q
    exact q _ [] ⟨rfl, rfl⟩
  · cases eg

/-! ### subscripts -/
def subX (d e : D) : Option D := match d, e with
  | .lst _ ds, .int i => atI ds i
  | .tup ds, .int i => atI ds i
  | .ktp ds, .int i => atI ds i
  | .klst ds, .int i => atI ds i
  | .str s, .int i => if szok s.length then (atI s.cps.toList i).map fun c => .str ⟨#[c]⟩ else none
  | .dic _ t ks ds, k => if keyOk t k then findK k ks ds else none
  | _, _ => none
def IxS (X : Cx) (cl : Clss) (g : D → D → Option D) : Prop :=
  ∀ (value slice : Expr) (pins : List (Addr × Obj)) (s : Shared) (σ : L2.St) (H G : Hp) (x y : V) (v u : Value) (d e z : D) (fx fy : List Addr) (Q : VK), Inv X pins σ H s → RelV x v → RelV y u → Sub G H → (∀ q xs, H q = some (.tup xs) → G q = some (.tup xs)) →
    Own X.K cl G H d x fx → Own X.K cl G H e y fy → g d e = some z → (∀ w fw, Own X.K cl G H z w fw → Q w H) → subscripted slice false v u = operate [v, u] (getItem v u) → wpAny (model X.prog X.w) X.A (subscriptTail value slice v u) (EP X pins σ Q) X.xe s
theorem IxS.ixR {g : D → D → Option D} (h : IxS X cl g) : IxR X (rS X.K cl g) := fun va sl pins s σ H x y v u Q I rx ry ⟨G, d, e, z, fx, fy, sb, tg, ox, oy, eg, q⟩ hs => h va sl pins s σ H G x y v u d e z fx fy Q I rx ry sb tg ox oy eg q hs
/-- the tail of a subscript, where the type's own __getitem__ is met -/
theorem sub_tail {prog : Program} {w : World} {A : Around} {E : Value → Shared → Prop} {s : Shared} {va sl : Expr} {o i : Value} {T id : String} {Q : Value → Shared → Prop} (ht : s.TypeIs o T) (hl : typeLookup (.type T) "__getitem__" = pure (some (.builtin id)))
    (hg : wpAny (model prog w) A (getItem o i) Q E s) (hs : subscripted sl false o i = operate [o, i] (getItem o i)) : wpAny (model prog w) A (subscriptTail va sl o i) Q E s := by
  have tail : wpAny (model prog w) A (subscripted sl false o i) (fun r t => wpAny (model prog w) A (letTemporaryGo va o r >>= fun _ => pure r) Q E t) E s := by
    rw [hs]
    exact wpAny_operating (wpAny_mono hg (fun r t q => wpAny_bind (wpAny_letTemporaryGo (wpAny_pure q))) fun _ _ q => q)
  unfold subscriptTail
  apply wpAny_bind
  rw [getitemInPython_of_ne ht.not_modules]
  apply wpAny_bind
  apply wpAny_specialOf ht hl
  first
    | exact wpAny_bind (wpAny_pure (wpAny_bind tail))
    | exact wpAny_pure (wpAny_bind tail)
    | exact wpAny_bind tail
theorem Owns.atI {K : PySem.W.Frag} {G H : Hp} {ds : List D} {xs : List V} {f : List Addr} {i : Int} {d : D} (h : Owns K cl G H ds xs f) (e : L2.atI ds i = some d) : ∃ x g, L2.atI xs i = some x ∧ Own K cl G H d x g ∧ ∀ a ∈ g, a ∈ f := by
  unfold L2.atI at e ⊢
  rw [h.length] at e
  cases hj : ixN xs.length i with
  | none => rw [hj] at e; cases e
  | some j =>
    rw [hj] at e
    obtain ⟨x, g, h1, h2, h3⟩ := h.get (show ds[j]? = some d from e)
    exact ⟨x, g, h1, h2, h3⟩
theorem ixs_sub (hu : X.A.units + 66 < cLine) : IxS X cl subX := by
  intro va sl pins s σ H G x y v u d e z fx fy Q I rx ry sb tg ox oy eg q hs
  have seq : ∀ (ds : List D) (i : Int), seqD d = some ds → e = .int i → L2.atI ds i = some z → wpAny (model X.prog X.w) X.A (subscriptTail va sl v u) (EP X pins σ Q) X.xe s := fun ds i hd he hz => by
    subst he
    obtain ⟨rfl, _⟩ := oy
    obtain ⟨a, xs, g, rfl, sq, ow, _⟩ := ox.seq sb hd
    obtain ⟨w, h, e1, o1, _⟩ := ow.atI hz
    rcases sq with sq | sq
    · exact ix_list va sl pins s σ H _ _ v u Q I rx ry ⟨a, xs, i, w, rfl, rfl, sq, e1, q w h o1⟩ hs
    · exact ix_tup va sl pins s σ H _ _ v u Q I rx ry ⟨a, xs, i, w, rfl, rfl, sq, e1, q w h o1⟩ hs
  unfold subX at eg
  split at eg
  · exact seq _ _ rfl rfl eg
  · exact seq _ _ rfl rfl eg
  · exact seq _ _ rfl rfl eg
  · exact seq _ _ rfl rfl eg
  · split at eg
    · rename_i hz
      obtain ⟨c, hc, rfl⟩ := Option.map_eq_some_iff.mp eg
      obtain ⟨rfl, _⟩ := ox
      obtain ⟨rfl, _⟩ := oy
      exact ix_str va sl pins s σ H _ _ v u Q I rx ry ⟨_, _, c, rfl, rfl, of_decide_eq_true hz, hc, q _ [] ⟨rfl, rfl⟩⟩ hs
    · cases eg
  · split at eg
    · rename_i ok
      obtain ⟨a, u', xs, g, rfl, rd, dk, ow, _⟩ := ox.dic sb
      cases rx
      obtain ⟨r, hg, _, hm⟩ := dic_look sb dk rd ow ok oy
      rw [eg] at hm
      obtain ⟨w, h, rfl, ow', _⟩ := hm
      exact sub_tail (dict_typeIs I hg) PySem.F.slot_dict_getitem.lookup (d_getItem (by omega) I hg ry fun w' s' I' rw' => ⟨w, H, I', rw', q w h ow'⟩) hs
    · cases eg
  · cases eg

/-! ### len -/
def lenX : List D → Option D
  | [.str s] => if szok s.length then some (.int s.length) else none
  | [.dic _ _ ks _] => some (.int ks.length)
  | [d] => (seqD d).map fun ds => .int ds.length
  | _ => none
theorem Each.one {K : PySem.W.Frag} {G H : Hp} {d : D} {vs : List V} (h : Each K cl G H [d] vs) : ∃ v f, vs = [v] ∧ Own K cl G H d v f := by
  obtain ⟨v, r, rfl, ⟨f, o⟩, h⟩ := h
  rw [show r = [] from h]
  exact ⟨v, f, rfl, o⟩
theorem Each.two {K : PySem.W.Frag} {G H : Hp} {d e : D} {vs : List V} (h : Each K cl G H [d, e] vs) : ∃ v w f g, vs = [v, w] ∧ Own K cl G H d v f ∧ Own K cl G H e w g := by
  obtain ⟨v, r, rfl, ⟨f, o⟩, h⟩ := h
  obtain ⟨w, g, rfl, o2⟩ := Each.one h
  exact ⟨v, w, f, g, rfl, o, o2⟩
theorem cls_len : ClS X cl (.builtin "len") lenX := by
  intro pins s σ H G xs us ds z Q I r sb tg ea eg q
  have seq : ∀ d es, ds = [d] → seqD d = some es → z = .int es.length → wpAny (model X.prog X.w) X.A (call (.builtin "len") us) (EP X pins σ Q) X.xe s := fun d es e1 e2 e3 => by
    subst e1 e3
    obtain ⟨v, f, rfl, o⟩ := ea.one
    obtain ⟨a, xs, g, rfl, sq, ow, _⟩ := o.seq sb e2
    exact call_len_seq pins s σ H _ us Q I r ⟨a, xs, rfl, sq, by rw [← ow.length]; exact q _ [] ⟨rfl, rfl⟩⟩
  unfold lenX at eg
  split at eg
  · split at eg
    · rename_i hz
      cases eg
      obtain ⟨v, f, rfl, rfl, _⟩ := ea.one
      exact call_len_str pins s σ H _ us Q I r ⟨_, rfl, of_decide_eq_true hz, q _ [] ⟨rfl, rfl⟩⟩
    · cases eg
  · rename_i o t ks ds'
    cases eg
    obtain ⟨v, f, rfl, o⟩ := ea.one
    obtain ⟨a, u', xs, g, rfl, rd, dk, ow, _⟩ := o.dic sb
    obtain ⟨u1, rfl, r1⟩ := Vals.one r
    cases r1
    cases t with
    | false =>
      obtain ⟨kv, rfl, rfl, rfl, _⟩ := dk
      refine d_len I rd fun t s' I' => ?_
      rw [List.length_map] at q
      exact atom_int I' q t
    | true =>
      obtain ⟨kv, rfl, rfl, rfl, _⟩ := dk
      rw [List.length_map] at q
      obtain ⟨hz, hd, es, rel, dd⟩ := dt_rd I.hok rd
      have hl := Paired.length rel
      have hsz := sizeLine_eq
      rw [hl] at q hz
      exact call_len_dictH hd dd (by omega) (atom_int (I.tok _) q _)
  · obtain ⟨es, e1, rfl⟩ := Option.map_eq_some_iff.mp eg
    exact seq _ _ rfl e1 rfl
  · cases eg
end
end PX

namespace PX
open PySem PySem.Spec PyProof.Rows L2
section
variable {X : Cx} {cl : Clss} {pins : List (Addr × Obj)} {σ : L2.St} {H G : Hp} {s : Shared}
/-! ### what stands in a thing that is walked -/
theorem valsIdx : ∀ {xs : List V} {us : List Value}, xs.length = us.length → (∀ (i : Nat) x u, xs[i]? = some x → us[i]? = some u → RelV x u) → Vals xs us
  | [], [], _, _ => .nil
  | [], _ :: _, l, _ => by simp at l
  | _ :: _, [], l, _ => by simp at l
  | x :: xs, u :: us, l, h => .cons (h 0 x u rfl rfl) (valsIdx (by simpa using l) fun i x u e1 e2 => h (i + 1) x u (by simpa using e1) (by simpa using e2))
theorem ownsIdx : ∀ {ds : List D} {xs : List V}, ds.length = xs.length → (∀ (i : Nat) d x, ds[i]? = some d → xs[i]? = some x → Own X.K cl G H d x []) → Owns X.K cl G H ds xs []
  | [], [], _, _ => ⟨rfl, rfl⟩
  | [], _ :: _, l, _ => by simp at l
  | _ :: _, [], l, _ => by simp at l
  | d :: ds, x :: xs, l, h => ⟨x, xs, [], [], rfl, rfl, h 0 d x rfl rfl, ownsIdx (by simpa using l) fun i d x e1 e2 => h (i + 1) d x (by simpa using e1) (by simpa using e2)⟩
theorem Own.ofKey (k : Key) : Own X.K cl G H (kD k) (kV k) [] := by
  cases k with
  | inl i => exact ⟨rfl, rfl⟩
  | inr s => exact ⟨rfl, rfl⟩
theorem Owns.ofKeys : ∀ ks : List Key, Owns X.K cl G H (ks.map kD) (ks.map kV) []
  | [] => ⟨rfl, rfl⟩
  | k :: ks => ⟨kV k, ks.map kV, [], [], rfl, rfl, Own.ofKey k, Owns.ofKeys ks⟩
/-- a dict's entries as they stand; its keys -/
theorem dic_raw (I : Inv X pins σ H s) (tg : ∀ q xs, H q = some (.tup xs) → G q = some (.tup xs)) {t : Bool} {ks : List D} {u : HO} {xs : List V} {a : Addr} (dk : DicOk t ks u xs) (rd : Rd H a u) :
    (a == sysModules) = false ∧ ∃ (es : Array DictEntry) (ep : Nat) (ys : List V), s.heap.DictRaw a es ep ∧ es.size ≤ sizeLine ∧ es.size = ks.length ∧ Vals ys (es.toList.map (·.key)) ∧ Owns X.K cl G H ks ys [] ∧ Vals xs (es.toList.map (·.val)) := by
  cases t with
  | false =>
    obtain ⟨kv, rfl, rfl, rfl, _⟩ := dk
    obtain ⟨hz, hs, vs, rel, dd⟩ := dk_rd I.hok rd
    obtain ⟨es, ep, hr, hsz, hi⟩ := dd.raw
    have hl : kv.length = vs.length := Paired.length rel
    have hat : ∀ i (h : i < es.size) (h2 : i < kv.length), ∃ k v, kv[i]? = some (k, v) ∧ RelV (kV k) es[i].key ∧ RelV v es[i].val := fun i h h2 => by
      obtain ⟨q, e1, e2, e3⟩ := paired_get rel (List.getElem?_eq_getElem h2)
      obtain ⟨e4, e5⟩ := hi i h q.1 q.2 e1
      refine ⟨kv[i].1, kv[i].2, List.getElem?_eq_getElem h2, ?_, by rw [e5]; exact e3⟩
      rw [e2]
      exact relV_key e4
    refine ⟨hs, es, ep, kv.map fun p => kV p.1, hr, by omega, by rw [hsz, List.length_map, hl], valsIdx (by simp only [List.length_map, Array.length_toList]; omega) fun i x u e1 e2 => ?_, ownsIdx (by rw [List.length_map, List.length_map]) fun i d x e1 e2 => ?_, valsIdx (by simp only [List.length_map, Array.length_toList]; omega) fun i x u e1 e2 => ?_⟩
    · rw [List.getElem?_map] at e1 e2
      replace e1 := Option.map_eq_some_iff.mp e1; obtain ⟨p, e1, rfl⟩ := e1
      replace e2 := Option.map_eq_some_iff.mp e2; obtain ⟨q, e2, rfl⟩ := e2
      obtain ⟨h2, e4⟩ := List.getElem?_eq_some_iff.mp e1
      obtain ⟨h1, e5⟩ := List.getElem?_eq_some_iff.mp e2
      obtain ⟨k, v, e6, r1, r2⟩ := hat i (by simpa using h1) h2
      rw [e1] at e6
      cases e6
      rw [← e5, Array.getElem_toList]
      exact r1
    · rw [List.getElem?_map] at e1 e2
      replace e1 := Option.map_eq_some_iff.mp e1; obtain ⟨p, e1, rfl⟩ := e1
      replace e2 := Option.map_eq_some_iff.mp e2; obtain ⟨q, e2, rfl⟩ := e2
      rw [e1] at e2
      cases e2
      exact Own.ofKey _
    · rw [List.getElem?_map] at e1 e2
      replace e1 := Option.map_eq_some_iff.mp e1; obtain ⟨p, e1, rfl⟩ := e1
      replace e2 := Option.map_eq_some_iff.mp e2; obtain ⟨q, e2, rfl⟩ := e2
      obtain ⟨h2, e4⟩ := List.getElem?_eq_some_iff.mp e1
      obtain ⟨h1, e5⟩ := List.getElem?_eq_some_iff.mp e2
      obtain ⟨k, v, e6, r1, r2⟩ := hat i (by simpa using h1) h2
      rw [e1] at e6
      cases e6
      rw [← e5, Array.getElem_toList]
      exact r2
  | true =>
    obtain ⟨kv, rfl, rfl, rfl, _⟩ := dk
    obtain ⟨hz, hs, vs, rel, dd⟩ := dt_rd I.hok rd
    obtain ⟨es, ep, hr, hsz, hi⟩ := dd.raw
    have hl : kv.length = vs.length := Paired.length rel
    have hat : ∀ i (h : i < es.size) (h2 : i < kv.length), ∃ k v q, kv[i]? = some (k, v) ∧ es[i].key = .ref q ∧ H q = some (.tup (k.map kV)) ∧ RelV v es[i].val := fun i h h2 => by
      obtain ⟨q, e1, e2, e3, e4⟩ := paired_get rel (List.getElem?_eq_getElem h2)
      obtain ⟨y, e5, e6, e7, _⟩ := hi i h
      rw [e1] at e5
      cases e5
      exact ⟨kv[i].1, kv[i].2, q.2.1, List.getElem?_eq_getElem h2, e6, e3, by rw [e7]; exact e4⟩
    -- the keys' addresses
    have hkeys : ∀ i (h : i < es.size), ∃ q, es[i].key = .ref q := fun i h => by
      obtain ⟨y, e5, e6, _⟩ := hi i h
      exact ⟨_, e6⟩
    let ad : DictEntry → Addr := fun e => match e.key with | .ref q => q | _ => 0
    have ead : ∀ i (h : i < es.size), es[i].key = .ref (ad es[i]) := fun i h => by
      obtain ⟨q, e⟩ := hkeys i h
      show es[i].key = .ref (match es[i].key with | .ref q => q | _ => 0)
      rw [e]
    refine ⟨hs, es, ep, es.toList.map fun e => V.ref (ad e), hr, by omega, by rw [hsz, List.length_map, hl], valsIdx (by simp) fun i x u e1 e2 => ?_, ownsIdx (by simp [hsz, hl]) fun i d x e1 e2 => ?_, valsIdx (by simp only [List.length_map, Array.length_toList]; omega) fun i x u e1 e2 => ?_⟩
    · rw [List.getElem?_map] at e1 e2
      replace e1 := Option.map_eq_some_iff.mp e1; obtain ⟨p, e1, rfl⟩ := e1
      replace e2 := Option.map_eq_some_iff.mp e2; obtain ⟨q, e2, rfl⟩ := e2
      rw [e1] at e2
      cases e2
      obtain ⟨h1, e5⟩ := List.getElem?_eq_some_iff.mp e1
      have h1' : i < es.size := by simpa using h1
      rw [← e5, Array.getElem_toList]
      exact ead i h1'
    · rw [List.getElem?_map] at e1 e2
      replace e1 := Option.map_eq_some_iff.mp e1; obtain ⟨p, e1, rfl⟩ := e1
      replace e2 := Option.map_eq_some_iff.mp e2; obtain ⟨q, e2, rfl⟩ := e2
      obtain ⟨h2, e4⟩ := List.getElem?_eq_some_iff.mp e1
      obtain ⟨h1, e5⟩ := List.getElem?_eq_some_iff.mp e2
      have h1' : i < es.size := by simpa using h1
      obtain ⟨k, v, b, e6, e7, e8, _⟩ := hat i h1' h2
      rw [e1] at e6
      cases e6
      rw [← e5, Array.getElem_toList]
      have e9 := ead i h1'
      rw [e7] at e9
      cases e9
      exact ⟨_, _, rfl, tg _ _ e8, Owns.ofKeys k⟩
    · rw [List.getElem?_map] at e1 e2
      replace e1 := Option.map_eq_some_iff.mp e1; obtain ⟨p, e1, rfl⟩ := e1
      replace e2 := Option.map_eq_some_iff.mp e2; obtain ⟨q, e2, rfl⟩ := e2
      obtain ⟨h2, e4⟩ := List.getElem?_eq_some_iff.mp e1
      obtain ⟨h1, e5⟩ := List.getElem?_eq_some_iff.mp e2
      obtain ⟨k, v, b, e6, _, _, r2⟩ := hat i (by simpa using h1) h2
      rw [e1] at e6
      cases e6
      rw [← e5, Array.getElem_toList]
      exact r2
/-- the items of a list or tuple, the keys of a dict -/
def colD : D → Option (List D)
  | .dic _ _ ks _ => some ks
  | d => match seqD d with
    | some ds => if clns ds then some ds else none
    | none => none
theorem vals_acc {n : Nat} {P : Nat → Value → Prop} {acc : Array Value} {us : List Value} (h : PySem.ItemsOf P acc n) (l : us.length = n) (hp : ∀ i v u, P i v → us[i]? = some u → v = u) : acc.toList = us := by
  apply List.ext_getElem?
  intro i
  by_cases hi : i < n
  · have h1 : i < acc.toList.length := by rw [Array.length_toList, h.1]; exact hi
    have h2 : i < us.length := by omega
    rw [List.getElem?_eq_getElem h1, List.getElem?_eq_getElem h2]
    have e := h.2 i acc.toList[i] (by rw [← Array.getElem?_toList, List.getElem?_eq_getElem h1])
    rw [hp i _ _ e (List.getElem?_eq_getElem h2)]
  · rw [List.getElem?_eq_none (by rw [Array.length_toList, h.1]; omega), List.getElem?_eq_none (by omega)]
theorem collect_D {A : Around} {E : Value → Shared → Prop} {d : D} {es : List D} {v : V} {f : List Addr} {u : Value} {Q : List Value → Shared → Prop} (I : Inv X pins σ H s) (hh : A.handled = none) (sb : Sub G H) (tg : ∀ q xs, H q = some (.tup xs) → G q = some (.tup xs)) (hd : colD d = some es)
    (o : Own X.K cl G H d v f) (r : RelV v u) (h : ∀ (xs : List V) (us : List Value) (s' : Shared), Inv X pins σ H s' → (∀ b o, s.heap.get? b = some o → s'.heap.get? b = some o) → Vals xs us → xs.length ≤ sizeLine → Owns X.K cl G H es xs [] → Q us s') : wpAny (model X.prog X.w) A (collect u) Q E s := by
  have seq : ∀ ds, seqD d = some ds → clns ds = true → es = ds → wpAny (model X.prog X.w) A (collect u) Q E s := fun ds hs hc e => by
    subst e
    obtain ⟨a, xs, g, rfl, sq, ow, _⟩ := o.seq sb hs
    cases r
    rcases sq with sq | sq
    · obtain ⟨its, rv, ⟨ob, n, ho, hc1, _, hd1⟩, hz⟩ := I.list sq
      have hl := rv.length
      refine wpAny_collect_seq a (.inl rfl) ho hc1 hd1 (fun h' k => ?_) (by rw [List.size_toArray]; omega)
      exact h xs its _ (I.kept (t' := s.toks) k) k rv hz (ow.of_clean hc)
    · obtain ⟨its, rv, ⟨ob, ho, hc1, n, hd1⟩, hz⟩ := I.tuple sq
      have hl := rv.length
      refine wpAny_collect_seq a (.inr rfl) ho hc1 hd1 (fun h' k => ?_) (by rw [List.size_toArray]; omega)
      exact h xs its _ (I.kept (t' := s.toks) k) k rv hz (ow.of_clean hc)
  cases d with
  | dic ob t ks ds =>
    cases hd
    obtain ⟨a, u', xs, g, rfl, rd, dk, ow, _⟩ := o.dic sb
    cases r
    obtain ⟨lo, es', ep, ys, hr, hz, hsz, rv, oy, _⟩ := dic_raw I tg dk rd
    refine PySem.W.kdu_collect (PySem.KdlSrc.rawDict lo) hh hr hz fun h' tk acc k hacc => ?_
    have e : acc.toList = es'.toList.map (·.key) := vals_acc hacc (by simp) fun i v u hv hu => by
      obtain ⟨hi, rfl⟩ := hv
      rw [List.getElem?_map, List.getElem?_eq_getElem (by simpa using hi)] at hu
      simpa using hu
    rw [e]
    exact h ys _ _ (I.kept (t' := tk) k) k rv (by rw [rv.length, List.length_map, Array.length_toList]; exact hz) oy
  | _ =>
    simp only [colD] at hd
    split at hd
    · rename_i ds hs
      split at hd
      · rename_i hc
        cases hd
        exact seq _ hs hc rfl
      · cases hd
    · cases hd

/-! ### list(..), tuple(..), sorted(..) -/
theorem invNewLst {xs : List V} {us : List Value} {p : Addr} {n : Nat} {h' : Heap} {tk : Nat} (I : Inv X pins σ H s) (k : ∀ b o, s.heap.get? b = some o → h'.get? b = some o) (hp : s.heap.objs.size ≤ p) (e : h'.get? p = some { cls := .type "list", data := .seq us.toArray n }) (r : Vals xs us) (z : xs.length ≤ sizeLine) :
    Inv X pins σ (upd H p (.lst xs)) { s with heap := h', toks := tk } := I.laid k hp ⟨z, us, n, r, e⟩
def sortKey (a b : D) : Bool := PySem.W.dataLe false py a b
def alikeB (ds : List D) : Bool := ds.all fun d => ds.all fun e => PySem.W.alike (py d) (py e)
def sortB (ds : List D) : Bool := (ds.all fun d => match d with | .tup (_ :: _) => true | .ktp (_ :: _) => true | _ => false) || ds.all fun d => match d with | .int _ | .str _ | .bl _ | .lst _ _ => true | _ => false
def sortedX : List D → Option D
  | [d] => match colD d with
    | some es => if es.all okD && alikeB es && sortB es then some (.lst true (es.mergeSort sortKey)) else none
    | none => none
  | _ => none
theorem mem_clns {ds : List D} (h : ∀ d ∈ ds, cln d = true) : clns ds = true := by
  induction ds with
  | nil => rfl
  | cons d ds ih => simp only [clns, h d (.head _), ih fun e m => h e (.tail _ m)]; rfl
theorem ownsEach {ds : List D} {xs : List V} {us : List Value} (o : Owns X.K cl G H ds xs []) (r : Vals xs us) : PySem.W.EachIs (fun u d => ∃ x, RelV x u ∧ Own X.K cl G H d x []) us ds := by
  induction ds generalizing xs us with
  | nil => obtain ⟨rfl, _⟩ := o; cases r; exact .nil
  | cons d ds ih =>
    obtain ⟨x, xr, f1, f2, rfl, e, h1, h2⟩ := o
    obtain ⟨rfl, rfl⟩ := List.append_eq_nil_iff.mp e.symm
    cases r with
    | cons r1 r2 => exact .cons ⟨x, r1, h1⟩ (ih h2 r2)
theorem ownsOfEach {ds : List D} {us : List Value} (h : PySem.W.EachIs (fun u d => ∃ x, RelV x u ∧ Own X.K cl G H d x []) us ds) : ∃ xs, Vals xs us ∧ Owns X.K cl G H ds xs [] := by
  induction h with
  | nil => exact ⟨[], .nil, rfl, rfl⟩
  | cons h _ ih =>
    obtain ⟨x, r, o⟩ := h
    obtain ⟨xs, rs, os⟩ := ih
    exact ⟨x :: xs, .cons r rs, x, xs, [], [], rfl, rfl, o, os⟩
theorem readsEach (I : Inv X pins σ H s) (sb : Sub G H) : ∀ {ds : List D} {xs : List V} {us : List Value}, (∀ d ∈ ds, okD d = true) → Vals xs us → Owns X.K cl G H ds xs [] → PySem.W.EachIs (fun u d => ∃ as, Reads s.heap u (py d) as) us ds
  | [], _, _, _, r, o => by obtain ⟨rfl, _⟩ := o; cases r; exact .nil
  | d :: ds, _, _, h, r, o => by
    obtain ⟨x, xr, f1, f2, rfl, e, h1, h2⟩ := o
    obtain ⟨rfl, rfl⟩ := List.append_eq_nil_iff.mp e.symm
    cases r with
    | cons r1 r2 => exact .cons (Own.reads I sb d _ _ _ (okD_of (h d (.head _))).1 h1 r1) (readsEach I sb (fun e m => h e (.tail _ m)) r2 h2)
theorem alike_of {es : List D} (h : alikeB es = true) : PySem.W.AllAlike (es.map py) := by
  intro d hd d' hd'
  obtain ⟨b, m, rfl⟩ := List.mem_map.mp hd
  obtain ⟨b', m', rfl⟩ := List.mem_map.mp hd'
  exact List.all_eq_true.mp (List.all_eq_true.mp h b m) b' m'
theorem sortable_of {es : List D} (h : sortB es = true) : PySem.W.Sortable (es.map py) := by
  unfold sortB at h
  rcases Bool.or_eq_true _ _ ▸ h with h | h
  · refine .inl fun d hd => ?_
    obtain ⟨b, m, rfl⟩ := List.mem_map.mp hd
    have q := List.all_eq_true.mp h b m
    split at q
    · exact ⟨_, _, rfl⟩
    · exact ⟨_, _, rfl⟩
    · cases q
  · refine .inr fun d hd => ?_
    obtain ⟨b, m, rfl⟩ := List.mem_map.mp hd
    have q := List.all_eq_true.mp h b m
    split at q <;> first | (exact ⟨fun z => by simp [py] at z, fun xs z => by simp [py] at z⟩) | cases q
theorem cla_sorted (hc : X.calm = true) (hu : X.A.units + 68 < cLine) : ClA X cl (.builtin "sorted") sortedX := by
  intro pins s σ H G xs us ds z Q I r sb tg ea eg hs hn
  unfold sortedX at eg
  split at eg
  · split at eg
    · rename_i d es he
      split at eg
      · rename_i hk
        cases eg
        simp only [Bool.and_eq_true] at hk
        obtain ⟨⟨k1, k2⟩, k3⟩ := hk
        obtain ⟨v, f, rfl, o⟩ := ea.one
        obtain ⟨u, rfl, rv⟩ := Vals.one r
        refine Calls.call_function_entry PyProof.Rows.kind_sorted PyProof.Rows.plain_sorted PyProof.Rows.entry_sorted (PyProof.Rows.args_sorted1 _) ?_
        unfold Builtin.«sorted»
        refine wpAny_bind (m := checkCount "sorted" 1 1 _) (wpAny_pure ?_)
        refine wpAny_bind (collect_D (A := X.A.in1) I (I.ok.hd hc) sb tg he o rv fun ys vs s1 I1 k1' rv1 hz ow => ?_)
        refine wpAny_bind (wpAny_newList ?_ (by rw [← rv1.length]; exact hz))
        have hoL : (s1.heap.push (seqObj "list" vs.toArray 0)).get? s1.heap.objs.size = some (seqObj "list" vs.toArray 0) := Heap.get?_push_size _ rfl
        have I2 : Inv X pins σ (upd H s1.heap.objs.size (.lst ys)) { s1 with heap := s1.heap.push (seqObj "list" vs.toArray 0) } := invNewLst (tk := s1.toks) I1 (fun b o e => Heap.get?_push_of_some _ e) (Nat.le_refl _) hoL rv1 hz
        have hp : H s1.heap.objs.size = none := I1.hok.fresh (Nat.le_refl _)
        have okall : ∀ d ∈ es, okD d = true := fun d m => List.all_eq_true.mp k1 d m
        have hlen : vs.length = es.length := by rw [← rv1.length, ow.length]
        have er0 : PySem.W.EachIs (fun v b => ∃ as, Reads s1.heap v (py b) as) vs es := readsEach I1 sb okall rv1 ow
        have er1 : PySem.W.EachIs (fun v b => ∃ as, Reads (PySem.W.sortingHeap (s1.heap.push (seqObj "list" vs.toArray 0)) s1.heap.objs.size vs) v (py b) as) vs es :=
          er0.mono fun _ _ ⟨as, r⟩ => ⟨as, PyProof.Rows.Reads.keeps (fun _ _ e => PySem.W.sortingHeap_old (Nat.ne_of_lt (Heap.lt_size e)) (Heap.get?_push_of_some _ e)) r⟩
        have hal : PySem.W.AllAlike (es.map py) := alike_of k2
        have hso : PySem.W.Sortable (es.map py) := sortable_of k3
        refine wpAny_bind (wpAny_holding (wpAny_call_entry PyProof.Rows.slot_list_sort ⟨_, hoL, rfl⟩ PyProof.Rows.entry_list_sort
          (PySem.W.list_sort_vals (s := { s1 with heap := s1.heap.push (seqObj "list" vs.toArray 0) }) (κ := PySem.W.dataKind (PySem.W.sortingHeap (s1.heap.push (seqObj "list" vs.toArray 0)) s1.heap.objs.size vs) (es.map py)) hoL
            (PySem.W.SortsAt.data (s := { s1 with heap := PySem.W.sortingHeap (s1.heap.push (seqObj "list" vs.toArray 0)) s1.heap.objs.size vs }) (PySem.W.each_map (R := fun v d => ∃ as, Reads (PySem.W.sortingHeap (s1.heap.push (seqObj "list" vs.toArray 0)) s1.heap.objs.size vs) v d as) py er1) hal hso (fun d m => ?_)) (by rw [← rv1.length]; exact hz) ⟨_, rfl, ?_⟩)
          (PyProof.Rows.args_list_sort _)))
        · obtain ⟨d, hd, rfl⟩ := List.mem_map.mp m
          have := (okD_of (okall d hd)).2
          show X.A.units + 1 + 1 + _ < cLine
          omega
        · obtain ⟨e', he'⟩ := PyProof.Rows.sortedHeap_at (vs := vs) (out := (PySem.W.sortVals (PySem.W.dataKind (PySem.W.sortingHeap (s1.heap.push (seqObj "list" vs.toArray 0)) s1.heap.objs.size vs) (es.map py)) false vs vs).toArray) hoL
          have so := PySem.W.sortVals_data false (R := fun v b => ∃ x, RelV x v ∧ Own X.K cl G H b x []) (ownsEach ow rv1) er1 hal
          obtain ⟨zs, rz, oz⟩ := ownsOfEach so
          have hl2 : zs.length = ys.length := by rw [← oz.length, ← ow.length, List.length_mergeSort]
          refine wpAny_pure ⟨_, rfl, .ref s1.heap.objs.size, upd H s1.heap.objs.size (.lst zs), invNewLst (s := s1) (tk := s1.toks) I1 (fun b o e => ?_) (Nat.le_refl _) he' rz (by rw [hl2]; exact hz), rfl, hn _ _ hp ⟨zs, rfl, oz⟩⟩
          have hb : b < s1.heap.objs.size := Heap.lt_size e
          rw [PyProof.Rows.sortedHeap_old (Nat.ne_of_lt hb) (by rw [size_push']; exact Nat.lt_succ_of_lt hb)]
          exact Heap.get?_push_of_some _ e
      · cases eg
    · cases eg
  · cases eg
end
end PX

namespace PX
open PySem PySem.Spec PyProof.Rows L2

section
variable {K : PySem.W.Frag} {cl : Clss} {G H G' H' : Hp} {Pn : List (Nat × Option V)} {G0 G1 Fr : Hp} {Γ : Env} {Ts : List (D × V)} {σ : L2.St} {fs : List (List Addr)} {E : Wt} {Ex : Nat → Env → Prop}
theorem Rel.base (r : Rel K cl G H Pn G0 Fr Γ Ts σ fs) (g : Ge G1 G) : Rel K cl G H Pn G1 Fr Γ Ts σ fs := ⟨r.sl, r.ts, r.sub, g, r.tg, r.pn⟩
theorem ExOk.base (e : ExOk K cl E Pn G0 Fr Ex) (g : Ge G0 G1) : ExOk K cl E Pn G1 Fr Ex := ⟨e.1, fun c Γ σ Ts H G fs x r => e.2 c Γ σ Ts H G fs x (r.base (g.trans r.ge))⟩
theorem ExOk.nin (e : ExOk K cl E Pn G0 Fr Ex) {i : Nat} (h : i ∉ E.refs) {v : V} : ∀ p ∈ Pn, p.1 = i → p.2 = some v := fun p m z => absurd (z ▸ e.1 p m) h
/-- a tuple at hand: its items at hand -/
theorem Rel.untup {ds : List D} {v : V} (r : Rel K cl G H Pn G0 Fr Γ ((.tup ds, v) :: Ts) σ fs) : ∃ a xs, v = .ref a ∧ G a = some (.tup xs) ∧ ds.length = xs.length ∧ Rel K cl G H Pn G0 Fr Γ (ds.zip xs ++ Ts) σ fs := by
  obtain ⟨ft, ⟨f1, f2, rfl, ⟨a, xs, rfl, e, ow⟩, t⟩, nd, k⟩ := r.ts
  exact ⟨a, xs, rfl, e, ow.length, r.sl, ⟨f1 ++ f2, (OwnT.zip ow).append t, nd, k⟩, r.sub, r.ge, r.tg, r.pn⟩
theorem Rel.unktp {ds : List D} {v : V} (r : Rel K cl G H Pn G0 Fr Γ ((.ktp ds, v) :: Ts) σ fs) : ∃ a xs, v = .ref a ∧ SqT K H a xs ∧ ds.length = xs.length ∧ Rel K cl G H Pn G0 Fr Γ (ds.zip xs ++ Ts) σ fs := by
  obtain ⟨ft, ⟨f1, f2, rfl, ⟨a, xs, rfl, e, ow⟩, t⟩, nd, k⟩ := r.ts
  exact ⟨a, xs, rfl, r.sub.seqT e, ow.length, r.sl, ⟨f1 ++ f2, (OwnT.zip ow).append t, nd, k⟩, r.sub, r.ge, r.tg, r.pn⟩
end

section
variable {K : PySem.W.Frag} {cl : Clss} {E : Wt} {X : Cx}
/-! ### small statements -/
def mSeq (m n : M Fl) : M Fl := do
  let f ← m
  match f with
  | .nx => n
  | .rt d => pure (.rt d)
  | .bk => pure .bk
  | .ct => pure .ct
theorem st_nil : PSs X [] (TSt K cl E (pure .nx)) := pss_nil.weak fun D σ H ⟨Pn, G0, Fr, Γ, Ts, G, fs, Ex, r, ex, q⟩ => (Sat.pure.mp q) σ H G fs r
theorem st_cons {st : Stmt} {rest : List Stmt} {m n : M Fl} (h1 : PS X st (TSt K cl E m)) (h2 : PSs X rest (TSt K cl E n)) : PSs X (st :: rest) (TSt K cl E (mSeq m n)) := by
  refine (pss_cons h1 h2).weak fun D σ H ⟨Pn, G0, Fr, Γ, Ts, G, fs, Ex, r, ex, q⟩ => ?_
  refine ⟨Pn, G0, Fr, Γ, Ts, G, fs, Ex, r, ex, (Sat.bind.mp q).imp fun f Γ' k => ?_⟩
  cases f with
  | nx => exact fun σ' H' G' fs' r' => ⟨Pn, G0, Fr, Γ', Ts, G', fs', Ex, r', ex, k⟩
  | rt d => exact Sat.pure.mp k
  | bk => exact Sat.pure.mp k
  | ct => exact Sat.pure.mp k
theorem st_one {st : Stmt} {m : M Fl} (h1 : PS X st (TSt K cl E m)) : PSs X [st] (TSt K cl E m) := pss_one h1
theorem st_pass {pos : Pos} : PS X (.Pass pos) (TSt K cl E (pure .nx)) := ps_pass.weak fun D σ H ⟨Pn, G0, Fr, Γ, Ts, G, fs, Ex, r, ex, q⟩ => (Sat.pure.mp q) σ H G fs r
theorem st_doc {x j pos pos'} : PS X (.Expr (.Constant (.str x) j pos) pos') (TSt K cl E (pure .nx)) := ps_doc.weak fun D σ H ⟨Pn, G0, Fr, Γ, Ts, G, fs, Ex, r, ex, q⟩ => (Sat.pure.mp q) σ H G fs r
theorem st_break {pos : Pos} : PS X (.Break pos) (TSt K cl E (pure .bk)) := ps_break.weak fun D σ H ⟨Pn, G0, Fr, Γ, Ts, G, fs, Ex, r, ex, q⟩ => (Sat.pure.mp q) σ H G fs r
theorem st_continue {pos : Pos} : PS X (.Continue pos) (TSt K cl E (pure .ct)) := ps_continue.weak fun D σ H ⟨Pn, G0, Fr, Γ, Ts, G, fs, Ex, r, ex, q⟩ => (Sat.pure.mp q) σ H G fs r
/-- code not come to -/
def mNever {α : Type} : M α := fun _ => none
theorem st_never {st : Stmt} : PS X st (TSt K cl E mNever) := ps_never.weak fun D σ H ⟨Pn, G0, Fr, Γ, Ts, G, fs, Ex, r, ex, q⟩ => q
theorem sts_never {st : List Stmt} : PSs X st (TSt K cl E mNever) := pss_never.weak fun D σ H ⟨Pn, G0, Fr, Γ, Ts, G, fs, Ex, r, ex, q⟩ => q
def mDrop (m : M D) : M Fl := do let _ ← m; pure .nx
theorem st_expr {e : Expr} {W : List Nat} {m : M D} {pos : Pos} (he : PE X e (TX K cl E W m)) (hs : swapsWith e none pos.line X.env = pure false) : PS X (.Expr e pos) (TSt K cl E (mDrop m)) := by
  refine (ps_expr he hs).weak fun D σ H ⟨Pn, G0, Fr, Γ, Ts, G, fs, Ex, r, ex, q⟩ => ?_
  exact ⟨Pn, G0, Fr, Γ, Ts, G, fs, Ex, r, ex, (Sat.bind.mp q).imp fun d Γ' k v H' G' fs' r' _ => (Sat.pure.mp k) σ H' G' fs' r'.drop1⟩
def mRet (m : M D) : M Fl := do let d ← m; pure (.rt d)
theorem st_ret {e : Expr} {W : List Nat} {m : M D} {pos : Pos} (he : PE X e (TX K cl E W m)) : PS X (.Return (some e) pos) (TSt K cl E (mRet m)) := by
  refine (ps_ret he).weak fun D σ H ⟨Pn, G0, Fr, Γ, Ts, G, fs, Ex, r, ex, q⟩ => ?_
  exact ⟨Pn, G0, Fr, Γ, Ts, G, fs, Ex, r, ex, (Sat.bind.mp q).imp fun d Γ' k v H' G' fs' r' _ => (Sat.pure.mp k) v σ H' G' fs' r'⟩
theorem st_retN {pos : Pos} : PS X (.Return none pos) (TSt K cl E (pure (.rt .non))) := ps_retN.weak fun D σ H ⟨Pn, G0, Fr, Γ, Ts, G, fs, Ex, r, ex, q⟩ => (Sat.pure.mp q) .non σ H G fs (r.push ⟨rfl, rfl⟩)
/-- a name's thing, taken (as the last use of the name) -/
def mTake (i : Nat) : M D := fun Γ => match Γ[i]? with
  | some (some d) => some (.ok d, Γ.set i none)
  | _ => none
theorem tx_take {i : Nat} {x : Str} {pos : Pos} {W : List Nat} (hN : X.N[i]? = some x) (hv : Vis X.env.scope x) (hd : (x == ("__debug__" : Str)) = false) (hcd : (x == ("__classdict__" : Str)) = false) (hW : i ∈ W) : PE X (.Name x pos) (TX K cl E W (mTake i)) := by
  refine (pe_var hN hv hd hcd).weak fun σ H Q ⟨Pn, G0, Fr, Γ, Ts, G, fs, Ex, r, ex, q⟩ => ?_
  unfold Sat mTake at q
  cases e : Γ[i]? with
  | none => rw [e] at q; exact q.elim
  | some γ =>
    rw [e] at q
    cases γ with
    | none => exact q.elim
    | some d =>
      obtain ⟨v, e1, r1, k1⟩ := r.take e
      exact ⟨v, e1, q v H G _ r1 (k1.mono fun j m => by rw [List.mem_singleton.mp m]; exact hW)⟩

/-! ### targets -/
def TGt (K : PySem.W.Frag) (cl : Clss) (E : Wt) (W : List Nat) (g : D → M Unit) : TG := fun v σ H Q => ∃ Pn G0 Fr Γ Ts G fs Ex d, Rel K cl G H Pn G0 Fr Γ ((d, v) :: Ts) σ fs ∧ ExOk K cl E Pn G0 Fr Ex ∧
  Sat Ex (g d) Γ fun _ Γ' => ∀ σ' H' G' fs', Rel K cl G' H' Pn G0 Fr Γ' Ts σ' fs' → Keep W fs fs' H H' → Q σ' H'
def TGts (K : PySem.W.Frag) (cl : Clss) (E : Wt) (W : List Nat) (g : List D → M Unit) : TGs := fun vs σ H Q => ∃ Pn G0 Fr Γ Ts G fs Ex ds, ds.length = vs.length ∧ Rel K cl G H Pn G0 Fr Γ (ds.zip vs ++ Ts) σ fs ∧ ExOk K cl E Pn G0 Fr Ex ∧
  Sat Ex (g ds) Γ fun _ Γ' => ∀ σ' H' G' fs', Rel K cl G' H' Pn G0 Fr Γ' Ts σ' fs' → Keep W fs fs' H H' → Q σ' H'
theorem _root_.L2.PG.weak {X : Cx} {e : Expr} {t t' : TG} (h : PG X e t) (w : ∀ v σ H Q, t' v σ H Q → t v σ H Q) : PG X e t' := ⟨fun pins s σ H v u Q I rv q => h.run pins s σ H v u Q I rv (w v σ H Q q)⟩
theorem _root_.L2.PGs.weak {X : Cx} {e : List Expr} {t t' : TGs} (h : PGs X e t) (w : ∀ v σ H Q, t' v σ H Q → t v σ H Q) : PGs X e t' := ⟨fun pins s σ H v u Q I rv q => h.run pins s σ H v u Q I rv (w v σ H Q q)⟩
def mSet (i : Nat) (d : D) : M Unit := fun Γ => if i < Γ.length then some (.ok (), Γ.set i (some d)) else none
theorem Sat.mSet {Ex : Nat → Env → Prop} {i : Nat} {d : D} {Γ : Env} {k : Unit → Env → Prop} : Sat Ex (mSet i d) Γ k ↔ i < Γ.length ∧ k () (Γ.set i (some d)) := by
  unfold Sat PX.mSet
  by_cases h : i < Γ.length
  · rw [if_pos h]; exact ⟨fun q => ⟨h, q⟩, fun q => q.2⟩
  · rw [if_neg h]; exact ⟨fun q => q.elim, fun q => h q.1⟩
theorem tg_name {i : Nat} {x : Str} {pos : Pos} (hN : X.N.Nodup) (hi : X.N[i]? = some x) (hx : Loc X.env.scope x) (hf : X.fn x = true ∨ X.env.scope.names.lookup x = some .local) (hr : i ∉ E.refs) {W : List Nat} (hW : i ∈ W) : PG X (.Name x pos) (TGt K cl E W (mSet i)) := by
  refine (pg_name hN hi hx hf).weak fun v σ H Q ⟨Pn, G0, Fr, Γ, Ts, G, fs, Ex, d, r, ex, q⟩ => ?_
  obtain ⟨hl, q⟩ := Sat.mSet.mp q
  obtain ⟨fs', r', k'⟩ := r.store hl (ex.nin hr)
  exact q _ H G fs' r' (k'.mono fun j m => by rw [List.mem_singleton.mp m]; exact hW)
def mGnil (ds : List D) : M Unit := match ds with
  | [] => pure ()
  | _ => mNever
def mGcons (g : D → M Unit) (gs : List D → M Unit) (ds : List D) : M Unit := match ds with
  | d :: ds => do g d; gs ds
  | [] => mNever
theorem tgs_nil {W : List Nat} : PGs X [] (TGts K cl E W mGnil) := pgs_nil.weak fun vs σ H Q ⟨Pn, G0, Fr, Γ, Ts, G, fs, Ex, ds, l, r, ex, q⟩ => by
  cases ds with
  | nil =>
    cases vs with
    | nil => exact ⟨rfl, (Sat.pure.mp q) σ H G fs r Keep.refl⟩
    | cons _ _ => simp at l
  | cons d ds => exact q.elim
theorem Rel.rot {G H G0 Fr : Hp} {Pn : List (Nat × Option V)} {Γ : Env} {Ts Us : List (D × V)} {p : D × V} {σ : L2.St} {fs : List (List Addr)} (r : Rel K cl G H Pn G0 Fr Γ (p :: (Us ++ Ts)) σ fs) : Rel K cl G H Pn G0 Fr Γ (Us ++ p :: Ts) σ fs := r.perm List.perm_middle.symm
theorem tgs_cons {e : Expr} {es : List Expr} {g : D → M Unit} {gs : List D → M Unit} {W : List Nat} (h1 : PG X e (TGt K cl E W g)) (h2 : PGs X es (TGts K cl E W gs)) (hs : (assignEach (e :: es) X.env).map (·.2) = assign e X.env :: (assignEach es X.env).map (·.2)) : PGs X (e :: es) (TGts K cl E W (mGcons g gs)) := by
  refine (pgs_cons h1 h2 hs).weak fun vs σ H Q ⟨Pn, G0, Fr, Γ, Ts, G, fs, Ex, ds, l, r, ex, q⟩ => ?_
  cases ds with
  | nil => exact q.elim
  | cons d ds =>
    cases vs with
    | nil => simp at l
    | cons v vs =>
      exact ⟨v, vs, rfl, Pn, G0, Fr, Γ, _, G, fs, Ex, d, r, ex, (Sat.bind.mp q).imp fun _ Γ' k σ' H' G' fs' r' kp => ⟨Pn, G0, Fr, Γ', Ts, G', fs', Ex, ds, by simpa using l, r', ex, k.imp fun _ Γ2 k2 σ2 H2 G2 fs2 r2 kp2 => k2 σ2 H2 G2 fs2 r2 (kp.trans kp2)⟩⟩
/-- (a, b, ..) = a tuple -/
def mGtup (n : Nat) (g : List D → M Unit) (d : D) : M Unit := match d with
  | .tup ds => if ds.length = n then g ds else mNever
  | .ktp ds => if ds.length = n then g ds else mNever
  | _ => mNever
theorem tg_tup {es : List Expr} {k : Nat} {pos : Pos} {g : List D → M Unit} {n : Nat} {W : List Nat} (hc : X.calm = true) (h : PGs X es (TGts X.K cl E W g)) (hn : (assignEach es X.env).length = n) (hst : (assignEach es X.env).findIdx? (·.1) = none) : PG X (.Tuple es k pos) (TGt X.K cl E W (mGtup n g)) := by
  refine (pg_tup hc h hn hst).weak fun v σ H Q ⟨Pn, G0, Fr, Γ, Ts, G, fs, Ex, d, r, ex, q⟩ => ?_
  unfold mGtup at q
  split at q
  · split at q
    · rename_i hl
      obtain ⟨a, xs, rfl, e, l, r'⟩ := r.untup
      exact ⟨a, xs, rfl, .inl (.inl (r.sub _ _ e)), by omega, Pn, G0, Fr, Γ, Ts, G, fs, Ex, _, l, r', ex, q⟩
    · exact q.elim
  · split at q
    · rename_i hl
      obtain ⟨a, xs, rfl, e, l, r'⟩ := r.unktp
      exact ⟨a, xs, rfl, e, by omega, Pn, G0, Fr, Γ, Ts, G, fs, Ex, _, l, r', ex, q⟩
    · exact q.elim
  · exact q.elim
def mAsg (m : M D) (g : D → M Unit) : M Fl := do let d ← m; g d; pure .nx
theorem st_asg {tg e : Expr} {W W' : List Nat} {m : M D} {g : D → M Unit} {pos : Pos} (he : PE X e (TX K cl E W m)) (hg : PG X tg (TGt K cl E W' g)) (hs : swapsWithSole [tg] e pos.line X.env = pure false) (hw : swappedStores [tg] e X.env = pure none)
    (h1 : (assignEach [tg] X.env).map (·.2) = [assign tg X.env]) : PS X (.Assign [tg] e pos) (TSt K cl E (mAsg m g)) := by
  refine (ps_asg he hg hs hw h1).weak fun D σ H ⟨Pn, G0, Fr, Γ, Ts, G, fs, Ex, r, ex, q⟩ => ?_
  refine ⟨Pn, G0, Fr, Γ, Ts, G, fs, Ex, r, ex, (Sat.bind.mp q).imp fun d Γ1 k v H1 G1 fs1 r1 _ => ?_⟩
  exact ⟨Pn, G0, Fr, Γ1, Ts, G1, fs1, Ex, d, r1, ex, (Sat.bind.mp k).imp fun _ Γ2 k σ2 H2 G2 fs2 r2 _ => (Sat.pure.mp k) σ2 H2 G2 fs2 r2⟩
/-- a, b = x, y: both first, then stored -/
def mPar (i j : Nat) (n : M (List D)) : M Fl := do
  let ds ← n
  match ds with
  | [d, e] => do mSet i d; mSet j e; pure .nx
  | _ => mNever
theorem st_par {i j : Nat} {x y : Str} {a b : Expr} {n : M (List D)} {W : List Nat} {px py pt pos : Pos} {kt k2 pt2} (hc : X.calm = true) (hN : X.N.Nodup) (hi : X.N[i]? = some x) (hj : X.N[j]? = some y) (hij : i ≠ j)
    (hx : X.env.scope.names.lookup x = some .local) (hy : X.env.scope.names.lookup y = some .local) (ha : PA X [a, b] (TAV K cl E W n)) (hri : i ∉ E.refs) (hrj : j ∉ E.refs)
    (hw : swappedStores [.Tuple [.Name x px, .Name y py] kt pt] (.Tuple [a, b] k2 pt2) X.env = pure (some [x, y]))
    (hs : swapsWithSole [.Tuple [.Name x px, .Name y py] kt pt] (.Tuple [a, b] k2 pt2) pos.line X.env = pure false) :
    PS X (.Assign [.Tuple [.Name x px, .Name y py] kt pt] (.Tuple [a, b] k2 pt2) pos) (TSt K cl E (mPar i j n)) := by
  refine (ps_par hc hN hi hj hij hx hy ha hw hs).weak fun D σ H ⟨Pn, G0, Fr, Γ, Ts, G, fs, Ex, r, ex, q⟩ => ?_
  refine ⟨Pn, G0, Fr, Γ, Ts, G, fs, Ex, r, ex, (Sat.bind.mp q).imp fun ds Γ1 k vs H1 G1 fs1 l r1 _ => ?_⟩
  match ds, vs, l, k, r1 with
  | [d, e], [v, w], _, k, r1 =>
    obtain ⟨l1, k⟩ := Sat.mSet.mp (Sat.bind.mp k)
    obtain ⟨l2, k⟩ := Sat.mSet.mp (Sat.bind.mp k)
    obtain ⟨fs2, r2, _⟩ := Rel.store r1 l1 (ex.nin hri)
    obtain ⟨fs3, r3, _⟩ := r2.store l2 (ex.nin hrj)
    exact ⟨v, w, rfl, (Sat.pure.mp k) _ H1 G1 fs3 r3⟩
  | [], _, _, k, _ => exact k.elim
  | [_], _, _, k, _ => exact k.elim
  | _ :: _ :: _ :: _, _, _, k, _ => exact k.elim
/-- name op= e, ints -/
def mAug (i : Nat) (f : Int → Int → Int) (m : M D) : M Fl := do
  let a ← mP (pVar i)
  let b ← m
  match a, b with
  | .int a, .int b => do mSet i (.int (f a b)); pure .nx
  | _, _ => mNever
theorem st_aug {i : Nat} {x : Str} {e : Expr} {m : M D} {W : List Nat} {op : Operator} {f : Int → Int → Int} {pos' pos : Pos} (hN : X.N.Nodup) (hi : X.N[i]? = some x) (hx : Loc X.env.scope x) (he : PE X e (TX K cl E W m)) (ho : PIp X op (ipI f)) (hf : X.fn x = true ∨ X.env.scope.names.lookup x = some .local) (hr : i ∉ E.refs) :
    PS X (.AugAssign (.Name x pos') op e pos) (TSt K cl E (mAug i f m)) := by
  refine (ps_aug hN hi hx he ho hf).weak fun D σ H ⟨Pn, G0, Fr, Γ, Ts, G, fs, Ex, r, ex, q⟩ => ?_
  obtain ⟨a, ha, q⟩ := Sat.mP.mp (Sat.bind.mp q)
  obtain ⟨v, _, e1, _, o⟩ := r.sl.get (pVar_some ha)
  refine ⟨v, e1, Pn, G0, Fr, Γ, Ts, G, fs, Ex, r, ex, (Sat.bind.mp q).imp fun b Γ1 k w H1 G1 fs1 r1 _ => ?_⟩
  cases a with
  | int a =>
    cases b with
    | int b =>
      obtain ⟨rfl, _⟩ := o
      obtain ⟨_, rfl, _⟩ := r1.top
      obtain ⟨l1, k⟩ := Sat.mSet.mp (Sat.bind.mp k)
      have r2 : Rel K cl G1 H1 Pn G0 Fr Γ1 ((.int (f a b), .int (f a b)) :: Ts) σ fs1 := r1.drop1.push ⟨rfl, rfl⟩
      obtain ⟨fs3, r3, _⟩ := r2.store l1 (ex.nin hr)
      exact ⟨a, b, rfl, rfl, (Sat.pure.mp k) _ H1 G1 fs3 r3⟩
    | _ => exact k.elim
  | _ => exact k.elim

/-! ### if, while, for -/
def mIf (t : M Bool) (a b : M Fl) : M Fl := do let k ← t; if k then a else b
theorem st_if {c : Expr} {p q : List Stmt} {t : M Bool} {a b : M Fl} {W : List Nat} {pos : Pos} (hc : PT X c (TTX K cl E W t)) (ha : PSs X p (TSt K cl E a)) (hb : PSs X q (TSt K cl E b)) : PS X (.If c p q pos) (TSt K cl E (mIf t a b)) := by
  refine (ps_if hc ha hb).weak fun D σ H ⟨Pn, G0, Fr, Γ, Ts, G, fs, Ex, r, ex, q⟩ => ?_
  refine ⟨Pn, G0, Fr, Γ, Ts, G, fs, Ex, r, ex, (Sat.bind.mp q).imp fun k Γ1 kk H1 G1 fs1 r1 _ => ?_⟩
  cases k with
  | true => rw [if_pos rfl]; exact ⟨Pn, G0, Fr, Γ1, Ts, G1, fs1, Ex, r1, ex, kk⟩
  | false => rw [if_neg Bool.false_ne_true]; exact ⟨Pn, G0, Fr, Γ1, Ts, G1, fs1, Ex, r1, ex, kk⟩
def mWhile (t : M Bool) (b : M Fl) : Nat → M Fl
  | 0 => mNever
  | n + 1 => do
    let k ← t
    if k then do
      let f ← b
      match f with
      | .nx => mWhile t b n
      | .ct => mWhile t b n
      | .bk => pure .nx
      | .rt d => pure (.rt d)
    else pure .nx
theorem st_while {c : Expr} {body : List Stmt} {t : M Bool} {b : M Fl} {W : List Nat} {pos : Pos} (n : Nat) (hp : PassesOwn (model X.prog X.w) X.A X.env X.xe) (hc : PT X c (TTX K cl E W t)) (hb : PSs X body (TSt K cl E b)) : PS X (.While c body [] pos) (TSt K cl E (mWhile t b n)) := by
  refine (ps_while hp hc hb).weak fun D σ H ⟨Pn, G0, Fr, Γ, Ts, G, fs, Ex, r, ex, q⟩ => ?_
  refine ⟨fun m σ H => ∃ Γ G fs, Rel K cl G H Pn G0 Fr Γ Ts σ fs ∧ Sat Ex (mWhile t b m) Γ fun f Γ' => match f with
    | .nx => ∀ σ' H' G' fs', Rel K cl G' H' Pn G0 Fr Γ' Ts σ' fs' → D.nx σ' H'
    | .bk => ∀ σ' H' G' fs', Rel K cl G' H' Pn G0 Fr Γ' Ts σ' fs' → D.bk σ' H'
    | .ct => ∀ σ' H' G' fs', Rel K cl G' H' Pn G0 Fr Γ' Ts σ' fs' → D.ct σ' H'
    | .rt d => ∀ v σ' H' G' fs', Rel K cl G' H' Pn G0 Fr Γ' ((d, v) :: Ts) σ' fs' → D.rt v H', ⟨n, Γ, G, fs, r, q⟩, ?_⟩
  rintro m σ H ⟨Γ, G, fs, r, q⟩
  cases m with
  | zero => exact q.elim
  | succ m =>
    refine ⟨Pn, G0, Fr, Γ, Ts, G, fs, Ex, r, ex, (Sat.bind.mp q).imp fun k Γ1 kk H1 G1 fs1 r1 _ => ?_⟩
    cases k with
    | false => rw [if_neg Bool.false_ne_true]; exact (Sat.pure.mp kk) σ H1 G1 fs1 r1
    | true =>
      rw [if_pos rfl]
      refine ⟨_, fun σ' H' n' => ⟨m, Nat.lt_succ_self m, n'⟩, Pn, G0, Fr, Γ1, Ts, G1, fs1, Ex, r1, ex, (Sat.bind.mp kk).imp fun f Γ2 k2 => ?_⟩
      cases f with
      | nx => exact fun σ' H' G' fs' r' => ⟨Γ2, G', fs', r', k2⟩
      | ct => exact fun σ' H' G' fs' r' => ⟨Γ2, G', fs', r', k2⟩
      | bk => exact Sat.pure.mp k2
      | rt d => exact Sat.pure.mp k2
/-- a walk that gives the things of ds, each given up -/
structure ItOk (K : PySem.W.Frag) (cl : Clss) (G1 : Hp) (J : It) (ds : List D) : Prop where
  go : ∀ i H G, i < ds.length → Ge G1 G → Sub G H → J.go i H
  stop : ∀ H G, Ge G1 G → Sub G H → J.stop ds.length H
  yld : ∀ i d H G x H' Pn G0 Fr Γ Ts σ fs, ds[i]? = some d → Ge G1 G → Rel K cl G H Pn G0 Fr Γ Ts σ fs → J.yld i H x H' → ∃ G', Rel K cl G' H' Pn G0 Fr Γ ((d, x) :: Ts) σ fs ∧ Keep [] fs fs H H'
def TIX (K : PySem.W.Frag) (cl : Clss) (E : Wt) (W : List Nat) (m : M (List D)) : TI := fun σ H R => ∃ Pn G0 Fr Γ Ts G fs Ex, Rel K cl G H Pn G0 Fr Γ Ts σ fs ∧ ExOk K cl E Pn G0 Fr Ex ∧
  Sat Ex m Γ fun ds Γ' => ∀ J H' G' fs', Rel K cl G' H' Pn G0 Fr Γ' Ts σ fs' → Keep W fs fs' H H' → ItOk K cl G' J ds → R J H'
theorem _root_.L2.PI.weak {X : Cx} {tg e : Expr} {t t' : TI} (h : PI X tg e t) (w : ∀ σ H R, t' σ H R → t σ H R) : PI X tg e t' := ⟨fun pins s σ H R I q => h.run pins s σ H R I (w σ H R q)⟩
def mForL (g : D → M Unit) (b : M Fl) : List D → M Fl
  | [] => pure .nx
  | d :: ds => do
    g d
    let f ← b
    match f with
    | .nx => mForL g b ds
    | .ct => mForL g b ds
    | .bk => pure .nx
    | .rt d => pure (.rt d)
def mFor (m : M (List D)) (g : D → M Unit) (b : M Fl) : M Fl := do let ds ← m; mForL g b ds
theorem st_for {W W' : List Nat} {tg iter : Expr} {body : List Stmt} {m : M (List D)} {g : D → M Unit} {b : M Fl} {pos : Pos} (hp : PassesOwn (model X.prog X.w) X.A X.env X.xe) (hc : X.calm = true) (hi : PI X tg iter (TIX K cl E W m)) (hg : PG X tg (TGt K cl E W' g)) (hb : PSs X body (TSt K cl E b))
    (hs : ∀ x, foldedSetIterable iter X.env x = pure x) : PS X (.For tg iter body [] pos) (TSt K cl E (mFor m g b)) := by
  refine (ps_for hp hc hi hg hb hs).weak fun D σ H ⟨Pn, G0, Fr, Γ, Ts, G, fs, Ex, r, ex, q⟩ => ?_
  refine ⟨Pn, G0, Fr, Γ, Ts, G, fs, Ex, r, ex, (Sat.bind.mp q).imp fun ds Γ1 k J H1 G1 fs1 r1 _ io => ?_⟩
  have ex1 : ExOk K cl E Pn G1 Fr Ex := ex.base r1.ge
  refine ⟨fun i m σ H => m = ds.length - i ∧ i ≤ ds.length ∧ ∃ Γ G fs, Rel K cl G H Pn G1 Fr Γ Ts σ fs ∧ Sat Ex (mForL g b (ds.drop i)) Γ fun f Γ' => match f with
    | .nx => ∀ σ' H' G' fs', Rel K cl G' H' Pn G0 Fr Γ' Ts σ' fs' → D.nx σ' H'
    | .bk => ∀ σ' H' G' fs', Rel K cl G' H' Pn G0 Fr Γ' Ts σ' fs' → D.bk σ' H'
    | .ct => ∀ σ' H' G' fs', Rel K cl G' H' Pn G0 Fr Γ' Ts σ' fs' → D.ct σ' H'
    | .rt d => ∀ v σ' H' G' fs', Rel K cl G' H' Pn G0 Fr Γ' ((d, v) :: Ts) σ' fs' → D.rt v H', ⟨ds.length, by simp, Nat.zero_le _, Γ1, G1, fs1, r1.base (Ge.refl _), k⟩, ?_⟩
  rintro i m σ H ⟨rfl, hi, Γ2, G2, fs2, r2, k2⟩
  by_cases hlt : i < ds.length
  · refine .inr ⟨io.go i H G2 hlt r2.ge r2.sub, _, fun σ' H' n' => ⟨ds.length - (i + 1), by omega, rfl, hlt, n'⟩, fun x H' y => ?_⟩
    rw [List.drop_eq_getElem_cons hlt] at k2
    obtain ⟨G3, r3, _⟩ := io.yld i ds[i] H G2 x H' Pn G1 Fr Γ2 Ts σ fs2 (List.getElem?_eq_getElem hlt) r2.ge r2 y
    refine ⟨Pn, G1, Fr, Γ2, Ts, G3, fs2, Ex, _, r3, ex1, (Sat.bind.mp k2).imp fun _ Γ3 k3 σ3 H3 G4 fs3 r4 _ => ?_⟩
    refine ⟨Pn, G1, Fr, Γ3, Ts, G4, fs3, Ex, r4, ex1, (Sat.bind.mp k3).imp fun f Γ4 k4 => ?_⟩
    cases f with
    | nx => exact fun σ' H' G' fs' r' => ⟨Γ4, G', fs', r', k4⟩
    | ct => exact fun σ' H' G' fs' r' => ⟨Γ4, G', fs', r', k4⟩
    | bk => exact fun σ' H' G' fs' r' => (Sat.pure.mp k4) σ' H' G' fs' (r'.base (r1.ge.trans r'.ge))
    | rt d => exact fun v σ' H' G' fs' r' => (Sat.pure.mp k4) v σ' H' G' fs' (r'.base (r1.ge.trans r'.ge))
  · have e : i = ds.length := by omega
    subst e
    rw [List.drop_length] at k2
    exact .inl ⟨io.stop H G2 r2.ge r2.sub, (Sat.pure.mp k2) σ H G2 fs2 (r2.base (r1.ge.trans r2.ge))⟩
end
end PX

namespace PX
open PySem PySem.Spec PyProof.Rows L2

section
variable {K : PySem.W.Frag} {cl : Clss} {E : Wt} {X : Cx}
theorem Sat.imp2 {α : Type} {Ex : Nat → Env → Prop} {m : M α} {Γ : Env} {k k' : α → Env → Prop} (h : Sat Ex m Γ k) (i : ∀ a Γ', m Γ = some (.ok a, Γ') → k a Γ' → k' a Γ') : Sat Ex m Γ k' := by
  unfold Sat at h ⊢
  split at h
  · exact h
  · rename_i e; exact i _ _ e h
  · exact h
/-! ### what is walked -/
theorem owns_nil_at {G H : Hp} {ds : List D} {xs : List V} {i : Nat} {d : D} {x : V} (o : Owns K cl G H ds xs []) (hd : ds[i]? = some d) (hx : xs[i]? = some x) : Own K cl G H d x [] := by
  obtain ⟨y, f, e1, o1, m⟩ := o.get hd
  rw [hx] at e1
  cases e1
  have z : f = [] := by
    cases f with
    | nil => rfl
    | cons a f => exact absurd (m a (.head _)) (by simp)
  rw [z] at o1
  exact o1
theorem itOk_list {G H : Hp} {a : Addr} {ds : List D} {xs : List V} (q : SqL K G a xs) (o : Owns K cl G H ds xs []) : ItOk K cl G (Itl K a) ds where
  go := fun i H' G' hi g sb => ⟨xs, xs[i]'(by rw [← o.length]; exact hi), sb.seqL (g.seqL q), by simp [← o.length, hi]⟩
  stop := fun H' G' g sb => ⟨xs, sb.seqL (g.seqL q), by rw [o.length]; exact Nat.le_refl _⟩
  yld := fun i d H' G' x H'' Pn G0 Fr Γ Ts σ fs hd g r y => by
    obtain ⟨rfl, y⟩ := y
    exact ⟨G', r.push ((owns_nil_at o hd (y xs (r.sub.seqL (g.seqL q)))).ch g), Keep.refl⟩
theorem itOk_tup {G H : Hp} {a : Addr} {ds : List D} {xs : List V} (q : SqT K G a xs) (o : Owns K cl G H ds xs []) : ItOk K cl G (Itt K a) ds where
  go := fun i H' G' hi g sb => ⟨xs, xs[i]'(by rw [← o.length]; exact hi), sb.seqT (g.seqT q), by simp [← o.length, hi]⟩
  stop := fun H' G' g sb => ⟨xs, sb.seqT (g.seqT q), by rw [o.length]; exact Nat.le_refl _⟩
  yld := fun i d H' G' x H'' Pn G0 Fr Γ Ts σ fs hd g r y => by
    obtain ⟨rfl, y⟩ := y
    exact ⟨G', r.push ((owns_nil_at o hd (y xs (r.sub.seqT (g.seqT q)))).ch g), Keep.refl⟩
/-- a list or tuple that is given up -/
theorem Own.seqF {G H : Hp} {d : D} {ds : List D} {v : V} {f : List Addr} (hd : seqD (fz d) = some ds) (h : Own K cl G H (fz d) v f) : ∃ a xs, v = .ref a ∧ (((∃ es, d = .lst true es ∨ d = .lst false es) ∨ ∃ es, d = .klst es) ∧ SqL K G a xs ∨ ((∃ es, d = .tup es) ∨ ∃ es, d = .ktp es) ∧ SqT K G a xs) ∧ Owns K cl G H ds xs [] := by
  have c := fz_cln d
  have hf : f = [] := h.clean c
  subst hf
  cases d with
  | lst o es =>
    cases hd
    obtain ⟨a, xs, rfl, q, ow⟩ := h
    refine ⟨a, xs, rfl, .inl ⟨.inl ⟨es, ?_⟩, .inl (.inl q)⟩, ow⟩
    cases o
    · exact .inr rfl
    · exact .inl rfl
  | tup es =>
    cases hd
    obtain ⟨a, xs, rfl, q, ow⟩ := h
    exact ⟨a, xs, rfl, .inr ⟨.inl ⟨es, rfl⟩, .inl (.inl q)⟩, ow⟩
  | ktp es =>
    cases hd
    obtain ⟨a, xs, rfl, q, ow⟩ := h
    exact ⟨a, xs, rfl, .inr ⟨.inr ⟨es, rfl⟩, q⟩, ow⟩
  | klst es =>
    cases hd
    obtain ⟨a, xs, rfl, q, ow⟩ := h
    exact ⟨a, xs, rfl, .inl ⟨.inr ⟨es, rfl⟩, q⟩, ow⟩
  | _ => cases hd
theorem pi_or {tg e : Expr} {t u : TI} (h1 : PI X tg e t) (h2 : PI X tg e u) : PI X tg e (fun σ H R => t σ H R ∨ u σ H R) := ⟨fun pins s σ H R I q => by
  rcases q with q | q
  · exact h1.run pins s σ H R I q
  · exact h2.run pins s σ H R I q⟩
def isLst : D → Bool
  | .lst _ _ => true
  | .klst _ => true
  | _ => false
/-- what is walked is given up -/
def mIter (m : M D) : M (List D) := do let d ← m; mO (seqD (fz d))
theorem tix_seq {tg e : Expr} {m : M D} {W : List Nat} (h : PE X e (TX X.K cl E W m)) : PI X tg e (TIX X.K cl E W (mIter m)) := by
  refine (pi_or (pi_list h) (pi_tup h)).weak fun σ H R ⟨Pn, G0, Fr, Γ, Ts, G, fs, Ex, r, ex, q⟩ => ?_
  have q := Sat.bind.mp q
  by_cases hl : ∃ d Γ', m Γ = some (.ok d, Γ') ∧ isLst d = false
  · obtain ⟨d0, Γ0, e0, hl⟩ := hl
    refine .inr ⟨Pn, G0, Fr, Γ, Ts, G, fs, Ex, r, ex, q.imp2 fun d Γ1 e1 k x H1 G1 fs1 r1 kp => ?_⟩
    rw [e0] at e1
    cases e1
    obtain ⟨ds, hd, k⟩ := Sat.mO.mp k
    obtain ⟨G2, r2⟩ := r1.fz
    obtain ⟨f, o⟩ := r2.top
    obtain ⟨a, xs, rfl, ⟨z, _⟩ | ⟨_, sq⟩, ow⟩ := o.seqF hd
    · rcases z with ⟨es, rfl | rfl⟩ | ⟨es, rfl⟩ <;> cases hl
    · exact ⟨a, rfl, ⟨xs, r2.sub.seqT sq⟩, k _ H1 G2 fs1 r2.drop1 kp (itOk_tup sq ow)⟩
  · refine .inl ⟨Pn, G0, Fr, Γ, Ts, G, fs, Ex, r, ex, q.imp2 fun d Γ1 e1 k x H1 G1 fs1 r1 kp => ?_⟩
    obtain ⟨ds, hd, k⟩ := Sat.mO.mp k
    obtain ⟨G2, r2⟩ := r1.fz
    obtain ⟨f, o⟩ := r2.top
    obtain ⟨a, xs, rfl, ⟨_, sq⟩ | ⟨z, _⟩, ow⟩ := o.seqF hd
    · exact ⟨a, rfl, ⟨xs, r2.sub.seqL sq⟩, k _ H1 G2 fs1 r2.drop1 kp (itOk_list sq ow)⟩
    · refine absurd ⟨d, Γ1, e1, ?_⟩ hl
      rcases z with ⟨es, rfl⟩ | ⟨es, rfl⟩ <;> rfl
/-! ranges -/
def big (j : Int) : Bool := decide (-(2 ^ 62) ≤ j) && decide (j < 2 ^ 62)
def rngD (lo : Int) (n : Nat) : List D := (List.range n).map fun (k : Nat) => .int (lo + (k : Int))
theorem rngD_len {lo : Int} {n : Nat} : (rngD lo n).length = n := by simp [rngD]
theorem itOk_range {G : Hp} {lo : Int} {n : Nat} : ItOk K cl G (Itr lo n) (rngD lo n) where
  go := fun i H' G' hi g sb => by rw [rngD_len] at hi; exact hi
  stop := fun H' G' g sb => by rw [rngD_len]; exact Nat.le_refl n
  yld := fun i d H' G' x H'' Pn G0 Fr Γ Ts σ fs hd g r y => by
    obtain ⟨rfl, rfl⟩ := y
    have hi : i < n := by
      have := (List.getElem?_eq_some_iff.mp hd).1
      rw [rngD_len] at this
      exact this
    simp only [rngD, List.getElem?_map, List.getElem?_range hi, Option.map_some, Option.some.injEq] at hd
    subst hd
    exact ⟨G', r.push ⟨rfl, rfl⟩, Keep.refl⟩
def rng1 (ds : List D) : Option (List D) := match ds with
  | [.int j] => if big j then some (rngD 0 j.toNat) else none
  | _ => none
def mRng1 (m : M (List D)) : M (List D) := do let ds ← m; mO (rng1 ds)
theorem big_of {j : Int} (h : big j = true) : -(2 ^ 62) ≤ j ∧ j < 2 ^ 62 := by
  simp only [big, Bool.and_eq_true, decide_eq_true_eq] at h
  exact h
theorem tix_rng1 {tg a : Expr} {m : M (List D)} {p pos : Pos} {W : List Nat} (hg : Gl X "range") (hm : X.mg "range" = none) (ha : PA X [a] (TAX X.K cl E W m)) (hs : starEach [a] X.env = [(false, eval a X.env)]) : PI X tg (.Call (.Name "range" p) [a] [] pos) (TIX X.K cl E W (mRng1 m)) := by
  refine (pi_range1 hg hm ha hs).weak fun σ H R ⟨Pn, G0, Fr, Γ, Ts, G, fs, Ex, r, ex, q⟩ => ?_
  refine ⟨Pn, G0, Fr, Γ, Ts, G, fs, Ex, r, ex, (Sat.bind.mp q).imp fun ds Γ1 k vs Us H1 G1 fs1 r1 kp ea => ?_⟩
  obtain ⟨es, he, k⟩ := Sat.mO.mp k
  unfold rng1 at he
  split at he
  · split at he
    · rename_i hb
      cases he
      obtain ⟨v, f, rfl, rfl, _⟩ := ea.one
      obtain ⟨b1, b2⟩ := big_of hb
      exact ⟨_, rfl, b1, b2, k _ H1 G1 fs1 r1.drop kp itOk_range⟩
    · cases he
  · cases he
def rng2 (ds : List D) : Option (List D) := match ds with
  | [.int i, .int j] => if big i && big j then some (rngD i (j - i).toNat) else none
  | _ => none
def mRng2 (m : M (List D)) : M (List D) := do let ds ← m; mO (rng2 ds)
theorem tix_rng2 {tg a b : Expr} {m : M (List D)} {p pos : Pos} {W : List Nat} (hg : Gl X "range") (hm : X.mg "range" = none) (ha : PA X [a, b] (TAX X.K cl E W m)) (hs : starEach [a, b] X.env = [(false, eval a X.env), (false, eval b X.env)]) (hs2 : starEach [b] X.env = [(false, eval b X.env)]) : PI X tg (.Call (.Name "range" p) [a, b] [] pos) (TIX X.K cl E W (mRng2 m)) := by
  refine (pi_range2 hg hm ha hs hs2).weak fun σ H R ⟨Pn, G0, Fr, Γ, Ts, G, fs, Ex, r, ex, q⟩ => ?_
  refine ⟨Pn, G0, Fr, Γ, Ts, G, fs, Ex, r, ex, (Sat.bind.mp q).imp fun ds Γ1 k vs Us H1 G1 fs1 r1 kp ea => ?_⟩
  obtain ⟨es, he, k⟩ := Sat.mO.mp k
  unfold rng2 at he
  split at he
  · split at he
    · rename_i hb
      cases he
      simp only [Bool.and_eq_true] at hb
      obtain ⟨v, w, f, g, rfl, ⟨rfl, _⟩, rfl, _⟩ := ea.two
      obtain ⟨b1, b2⟩ := big_of hb.1
      obtain ⟨b3, b4⟩ := big_of hb.2
      exact ⟨_, _, rfl, ⟨b1, b2, b3, b4⟩, k _ H1 G1 fs1 r1.drop kp itOk_range⟩
    · cases he
  · cases he
/-- lo, lo + c, .. -/
def rngC (lo c : Int) (n : Nat) : List D := (List.range n).map fun (k : Nat) => .int (lo + (k : Int) * c)
theorem rngC_len {lo c : Int} {n : Nat} : (rngC lo c n).length = n := by simp [rngC]
theorem itOk_rangeC {G : Hp} {lo c : Int} {n : Nat} : ItOk K cl G (Itc lo c n) (rngC lo c n) where
  go := fun i H' G' hi g sb => by rw [rngC_len] at hi; exact hi
  stop := fun H' G' g sb => by rw [rngC_len]; exact Nat.le_refl n
  yld := fun i d H' G' x H'' Pn G0 Fr Γ Ts σ fs hd g r y => by
    obtain ⟨rfl, rfl⟩ := y
    have hi : i < n := by
      have := (List.getElem?_eq_some_iff.mp hd).1
      rw [rngC_len] at this
      exact this
    simp only [rngC, List.getElem?_map, List.getElem?_range hi, Option.map_some, Option.some.injEq] at hd
    subst hd
    exact ⟨G', r.push ⟨rfl, rfl⟩, Keep.refl⟩
def rng3 (ds : List D) : Option (List D) := match ds with
  | [.int i, .int j, .int c] => if c = -1 then (if big i && big j then some (rngC i (-1) (i - j).toNat) else none) else none
  | _ => none
def mRng3 (m : M (List D)) : M (List D) := do let ds ← m; mO (rng3 ds)
theorem tix_rng3 {tg a b c : Expr} {m : M (List D)} {p pos : Pos} {W : List Nat} (hg : Gl X "range") (hm : X.mg "range" = none) (ha : PA X [a, b, c] (TAX X.K cl E W m)) (hs : starEach [a, b, c] X.env = (false, eval a X.env) :: starEach [b, c] X.env) (hpl : (backTo pos (starEach [b, c] X.env)).any (·.1) = false) : PI X tg (.Call (.Name "range" p) [a, b, c] [] pos) (TIX X.K cl E W (mRng3 m)) := by
  refine (pi_range3 hg hm ha hs hpl).weak fun σ H R ⟨Pn, G0, Fr, Γ, Ts, G, fs, Ex, r, ex, q⟩ => ?_
  refine ⟨Pn, G0, Fr, Γ, Ts, G, fs, Ex, r, ex, (Sat.bind.mp q).imp fun ds Γ1 k vs Us H1 G1 fs1 r1 kp ea => ?_⟩
  obtain ⟨es, he, k⟩ := Sat.mO.mp k
  unfold rng3 at he
  split at he
  · split at he
    · rename_i hc
      subst hc
      split at he
      · rename_i hb
        cases he
        simp only [Bool.and_eq_true] at hb
        obtain ⟨v, r', rfl, ⟨f, rfl, _⟩, h⟩ := ea
        obtain ⟨w, u, _, _, rfl, ⟨rfl, _⟩, rfl, _⟩ := Each.two h
        obtain ⟨b1, b2⟩ := big_of hb.1
        obtain ⟨b3, b4⟩ := big_of hb.2
        exact ⟨_, _, _, _, rfl, RgC.neg b1 b2 b3 b4, k _ H1 G1 fs1 r1.drop kp itOk_rangeC⟩
      · cases he
    · cases he
  · cases he
/-! reversed -/
theorem itOk_rev {G H : Hp} {a : Addr} {ds : List D} {xs : List V} (q : SqL K G a xs) (o : Owns K cl G H ds xs []) : ItOk K cl G (Itv K a xs.length) ds.reverse where
  go := fun i H' G' hi g sb => by
    rw [List.length_reverse, o.length] at hi
    exact ⟨hi, xs, xs[xs.length - 1 - i]'(by omega), sb.seqL (g.seqL q), List.getElem?_eq_getElem _⟩
  stop := fun H' G' g sb => by rw [List.length_reverse, o.length]; exact Nat.le_refl _
  yld := fun i d H' G' x H'' Pn G0 Fr Γ Ts σ fs hd g r y => by
    obtain ⟨rfl, y⟩ := y
    have hi : i < ds.length := by
      have := (List.getElem?_eq_some_iff.mp hd).1
      rwa [List.length_reverse] at this
    rw [List.getElem?_reverse hi, o.length] at hd
    exact ⟨G', r.push ((owns_nil_at o hd (y xs (r.sub.seqL (g.seqL q)))).ch g), Keep.refl⟩
theorem itOk_revT {G H : Hp} {a : Addr} {ds : List D} {xs : List V} (q : SqT K G a xs) (o : Owns K cl G H ds xs []) : ItOk K cl G (RT.ItvT K a xs.length) ds.reverse where
  go := fun i H' G' hi g sb => by
    rw [List.length_reverse, o.length] at hi
    exact ⟨hi, xs, xs[xs.length - 1 - i]'(by omega), sb.seqT (g.seqT q), List.getElem?_eq_getElem _⟩
  stop := fun H' G' g sb => by rw [List.length_reverse, o.length]; exact Nat.le_refl _
  yld := fun i d H' G' x H'' Pn G0 Fr Γ Ts σ fs hd g r y => by
    obtain ⟨rfl, y⟩ := y
    have hi : i < ds.length := by
      have := (List.getElem?_eq_some_iff.mp hd).1
      rwa [List.length_reverse] at this
    rw [List.getElem?_reverse hi, o.length] at hd
    exact ⟨G', r.push ((owns_nil_at o hd (y xs (r.sub.seqT (g.seqT q)))).ch g), Keep.refl⟩
def mRev (m : M D) : M (List D) := do let d ← m; mO ((seqD (fz d)).map List.reverse)
theorem tix_rev {tg e : Expr} {m : M D} {p pos : Pos} {W : List Nat} (hg : Gl X "reversed") (hm : X.mg "reversed" = none) (he : PE X e (TX X.K cl E W m)) (hs : starEach [e] X.env = (false, eval e X.env) :: starEach [] X.env) : PI X tg (.Call (.Name "reversed" p) [e] [] pos) (TIX X.K cl E W (mRev m)) := by
  refine (RT.pi_revA hg hm he hs).weak fun σ H R ⟨Pn, G0, Fr, Γ, Ts, G, fs, Ex, r, ex, q⟩ => ?_
  refine ⟨Pn, G0, Fr, Γ, Ts, G, fs, Ex, r, ex, (Sat.bind.mp q).imp fun d Γ1 k x H1 G1 fs1 r1 kp => ?_⟩
  obtain ⟨es, hd, k⟩ := Sat.mO.mp k
  obtain ⟨ds, hd2, rfl⟩ := Option.map_eq_some_iff.mp hd
  obtain ⟨G2, r2⟩ := r1.fz
  obtain ⟨f, o⟩ := r2.top
  obtain ⟨a, xs, rfl, ⟨_, sq⟩ | ⟨_, sq⟩, ow⟩ := o.seqF hd2
  · exact ⟨a, xs, rfl, .inl ⟨r2.sub.seqL sq, k _ H1 G2 fs1 r2.drop1 kp (itOk_rev sq ow)⟩⟩
  · exact ⟨a, xs, rfl, .inr ⟨r2.sub.seqT sq, k _ H1 G2 fs1 r2.drop1 kp (itOk_revT sq ow)⟩⟩
/-! enumerate, zip: a new pair at each turn -/
theorem Rel.pair {G H G0 Fr : Hp} {Pn : List (Nat × Option V)} {Γ : Env} {Ts : List (D × V)} {σ : L2.St} {fs : List (List Addr)} {d e : D} {x y : V} {p : Addr} (r : Rel K cl G H Pn G0 Fr Γ Ts σ fs) (o1 : Own K cl G H d x []) (o2 : Own K cl G H e y []) (hp : H p = none) :
    ∃ G', Rel K cl G' (upd H p (.tup [x, y])) Pn G0 Fr Γ ((.tup [d, e], .ref p) :: Ts) σ fs ∧ Keep [] fs fs H (upd H p (.tup [x, y])) := by
  have r2 : Rel K cl G H Pn G0 Fr Γ ([d, e].zip [x, y] ++ Ts) σ fs := (r.push o2).push o1
  exact ⟨_, r2.newTup rfl hp⟩
def enumD : Nat → List D → List D
  | _, [] => []
  | n, d :: ds => .tup [.int n, d] :: enumD (n + 1) ds
theorem enumD_at : ∀ (k : Nat) (ds : List D) (i : Nat), (enumD k ds)[i]? = ds[i]?.map fun d => .tup [.int ((k + i : Nat) : Int), d]
  | _, [], i => by simp [enumD]
  | k, d :: ds, 0 => by simp [enumD]
  | k, d :: ds, i + 1 => by
    simp only [enumD, List.getElem?_cons_succ]
    rw [enumD_at (k + 1) ds i]
    congr 1
    funext d
    rw [show k + 1 + i = k + (i + 1) by omega]
theorem enumD_len : ∀ (k : Nat) (ds : List D), (enumD k ds).length = ds.length
  | _, [] => rfl
  | k, d :: ds => by simp [enumD, enumD_len]
theorem itOk_enum {G H : Hp} {a : Addr} {ds : List D} {xs : List V} (q : SqL K G a xs) (o : Owns K cl G H ds xs []) : ItOk K cl G (Ite K a) (enumD 0 ds) where
  go := fun i H' G' hi g sb => by
    rw [enumD_len] at hi
    exact ⟨xs, xs[i]'(by rw [← o.length]; exact hi), sb.seqL (g.seqL q), by simp [← o.length, hi]⟩
  stop := fun H' G' g sb => ⟨xs, sb.seqL (g.seqL q), by rw [enumD_len, o.length]; exact Nat.le_refl _⟩
  yld := fun i d H' G' x H'' Pn G0 Fr Γ Ts σ fs hd g r y => by
    obtain ⟨T, y, rfl, hT, rfl, hy⟩ := y
    rw [enumD_at] at hd
    obtain ⟨e, he, rfl⟩ := Option.map_eq_some_iff.mp hd
    rw [Nat.zero_add]
    exact r.pair ⟨rfl, rfl⟩ ((owns_nil_at o he (hy xs (r.sub.seqL (g.seqL q)))).ch g) hT
def mEnum (m : M (List D)) : M (List D) := do
  let ds ← m
  match ds with
  | [.lst false es] => if clns es then pure (enumD 0 es) else mNever
  | [.klst es] => if clns es then pure (enumD 0 es) else mNever
  | _ => mNever
theorem tix_enum {elts : List Expr} {kk : Nat} {tpos : Pos} {e : Expr} {m : M (List D)} {p pos : Pos} {W : List Nat} (hg : Gl X "enumerate") (hm : X.mg "enumerate" = none) (ha : PA X [e] (TAX X.K cl E W m)) (hs : starEach [e] X.env = [(false, eval e X.env)]) :
    PI X (.Tuple elts kk tpos) (.Call (.Name "enumerate" p) [e] [] pos) (TIX X.K cl E W (mEnum m)) := by
  refine (pi_enum hg hm ha hs).weak fun σ H R ⟨Pn, G0, Fr, Γ, Ts, G, fs, Ex, r, ex, q⟩ => ?_
  refine ⟨Pn, G0, Fr, Γ, Ts, G, fs, Ex, r, ex, (Sat.bind.mp q).imp fun ds Γ1 k vs Us H1 G1 fs1 r1 kp ea => ?_⟩
  split at k
  · split at k
    · rename_i hc
      obtain ⟨v, f, rfl, o⟩ := ea.one
      have o := o.of_clean (show cln (.lst false _) = true by simp [cln, hc])
      obtain ⟨a, xs, rfl, sq, ow⟩ := o
      exact ⟨a, xs, rfl, .inl (.inl (r1.sub _ _ sq)), (Sat.pure.mp k) _ H1 G1 fs1 r1.drop kp (itOk_enum (.inl (.inl sq)) ow)⟩
    · exact k.elim
  · split at k
    · rename_i hc
      obtain ⟨v, f, rfl, o⟩ := ea.one
      have o := o.of_clean (show cln (.klst _) = true by simp [cln, hc])
      obtain ⟨a, xs, rfl, sq, ow⟩ := o
      exact ⟨a, xs, rfl, r1.sub.seqL sq, (Sat.pure.mp k) _ H1 G1 fs1 r1.drop kp (itOk_enum sq ow)⟩
    · exact k.elim
  · exact k.elim
theorem itOk_zip {G H : Hp} {a b : Addr} {ds es : List D} {xs ys : List V} (q1 : SqL K G a xs) (o1 : Owns K cl G H ds xs []) (q2 : SqL K G b ys) (o2 : Owns K cl G H es ys []) : ItOk K cl G (Itz K a b) (List.zipWith (fun d e => .tup [d, e]) ds es) where
  go := fun i H' G' hi g sb => by
    rw [List.length_zipWith, o1.length, o2.length] at hi
    exact ⟨xs, ys, xs[i]'(by omega), ys[i]'(by omega), sb.seqL (g.seqL q1), sb.seqL (g.seqL q2), List.getElem?_eq_getElem _, List.getElem?_eq_getElem _⟩
  stop := fun H' G' g sb => ⟨xs, ys, sb.seqL (g.seqL q1), sb.seqL (g.seqL q2), by rw [List.length_zipWith, o1.length, o2.length]; omega⟩
  yld := fun i d H' G' x H'' Pn G0 Fr Γ Ts σ fs hd g r y => by
    obtain ⟨T, x1, x2, rfl, hT, rfl, h1, h2⟩ := y
    obtain ⟨e1, e2, f1, f2, rfl⟩ := List.getElem?_zipWith_eq_some.mp hd
    exact r.pair ((owns_nil_at o1 f1 (h1 xs (r.sub.seqL (g.seqL q1)))).ch g) ((owns_nil_at o2 f2 (h2 ys (r.sub.seqL (g.seqL q2)))).ch g) hT
theorem itOk_zipT {G H : Hp} {a b : Addr} {ds es : List D} {xs ys : List V} (q1 : SqT K G a xs) (o1 : Owns K cl G H ds xs []) (q2 : SqT K G b ys) (o2 : Owns K cl G H es ys []) : ItOk K cl G (RZ.ItzT K a b) (List.zipWith (fun d e => .tup [d, e]) ds es) where
  go := fun i H' G' hi g sb => by
    rw [List.length_zipWith, o1.length, o2.length] at hi
    exact ⟨xs, ys, xs[i]'(by omega), ys[i]'(by omega), sb.seqT (g.seqT q1), sb.seqT (g.seqT q2), List.getElem?_eq_getElem _, List.getElem?_eq_getElem _⟩
  stop := fun H' G' g sb => ⟨xs, ys, sb.seqT (g.seqT q1), sb.seqT (g.seqT q2), by rw [List.length_zipWith, o1.length, o2.length]; omega⟩
  yld := fun i d H' G' x H'' Pn G0 Fr Γ Ts σ fs hd g r y => by
    obtain ⟨T, x1, x2, rfl, hT, rfl, h1, h2⟩ := y
    obtain ⟨e1, e2, f1, f2, rfl⟩ := List.getElem?_zipWith_eq_some.mp hd
    exact r.pair ((owns_nil_at o1 f1 (h1 xs (r.sub.seqT (g.seqT q1)))).ch g) ((owns_nil_at o2 f2 (h2 ys (r.sub.seqT (g.seqT q2)))).ch g) hT
def zipX (ds : List D) : Option (List D) := match ds with
  | [.lst false ds, .lst false es] => if clns ds && clns es then some (List.zipWith (fun d e => .tup [d, e]) ds es) else none
  | [.tup ds, .tup es] => if clns ds && clns es then some (List.zipWith (fun d e => .tup [d, e]) ds es) else none
  | [.tup ds, .ktp es] => if clns ds && clns es then some (List.zipWith (fun d e => .tup [d, e]) ds es) else none
  | [.ktp ds, .tup es] => if clns ds && clns es then some (List.zipWith (fun d e => .tup [d, e]) ds es) else none
  | _ => none
def mZip (m : M (List D)) : M (List D) := do let ds ← m; mO (zipX ds)
theorem tix_zip {elts : List Expr} {kk : Nat} {tpos : Pos} {e e2 : Expr} {m : M (List D)} {p pos : Pos} {W : List Nat} (hg : Gl X "zip") (hm : X.mg "zip" = none) (ha : PA X [e, e2] (TAX X.K cl E W m)) (hs : starEach [e, e2] X.env = (false, eval e X.env) :: starEach [e2] X.env) (hpl : (backTo pos (starEach [e2] X.env)).any (·.1) = false) :
    PI X (.Tuple elts kk tpos) (.Call (.Name "zip" p) [e, e2] [] pos) (TIX X.K cl E W (mZip m)) := by
  refine (RZ.pi_zipA hg hm ha hs hpl).weak fun σ H R ⟨Pn, G0, Fr, Γ, Ts, G, fs, Ex, r, ex, q⟩ => ?_
  refine ⟨Pn, G0, Fr, Γ, Ts, G, fs, Ex, r, ex, (Sat.bind.mp q).imp fun ds Γ1 k vs Us H1 G1 fs1 r1 kp ea => ?_⟩
  obtain ⟨zs, hz, k⟩ := Sat.mO.mp k
  have tt : ∀ d e ds es, Each X.K cl G1 H1 [d, e] vs → cln d = true → cln e = true → (∀ v, Own X.K cl G1 H1 d v [] → ∃ a xs, v = .ref a ∧ SqT X.K G1 a xs ∧ Owns X.K cl G1 H1 ds xs []) → (∀ v, Own X.K cl G1 H1 e v [] → ∃ a xs, v = .ref a ∧ SqT X.K G1 a xs ∧ Owns X.K cl G1 H1 es xs []) →
      zs = List.zipWith (fun d e => .tup [d, e]) ds es → ∃ a b xs ys, vs = [.ref a, .ref b] ∧ ((SqL X.K H1 a xs ∧ SqL X.K H1 b ys ∧ R (Itz X.K a b) H1) ∨ (SqT X.K H1 a xs ∧ SqT X.K H1 b ys ∧ R (RZ.ItzT X.K a b) H1)) := fun d e ds es ea c1 c2 h1 h2 ez => by
    subst ez
    obtain ⟨v, w, f, g, rfl, o1, o2⟩ := ea.two
    obtain ⟨a, xs, rfl, sq1, ow1⟩ := h1 v (o1.of_clean c1)
    obtain ⟨b, ys, rfl, sq2, ow2⟩ := h2 w (o2.of_clean c2)
    exact ⟨a, b, xs, ys, rfl, .inr ⟨r1.sub.seqT sq1, r1.sub.seqT sq2, k _ H1 G1 fs1 r1.drop kp (itOk_zipT sq1 ow1 sq2 ow2)⟩⟩
  unfold zipX at hz
  split at hz
  · split at hz
    · rename_i hc
      cases hz
      simp only [Bool.and_eq_true] at hc
      obtain ⟨v, w, f, g, rfl, o1, o2⟩ := ea.two
      obtain ⟨a, xs, rfl, sq1, ow1⟩ := o1.of_clean (by simp [cln, hc.1])
      obtain ⟨b, ys, rfl, sq2, ow2⟩ := o2.of_clean (by simp [cln, hc.2])
      exact ⟨a, b, xs, ys, rfl, .inl ⟨.inl (.inl (r1.sub _ _ sq1)), .inl (.inl (r1.sub _ _ sq2)), k _ H1 G1 fs1 r1.drop kp (itOk_zip (.inl (.inl sq1)) ow1 (.inl (.inl sq2)) ow2)⟩⟩
    · cases hz
  · split at hz
    · rename_i hc
      cases hz
      simp only [Bool.and_eq_true] at hc
      exact tt _ _ _ _ ea (by simpa [cln] using hc.1) (by simpa [cln] using hc.2) (fun v ⟨a, xs, e, q, o⟩ => ⟨a, xs, e, .inl (.inl q), o⟩) (fun v ⟨a, xs, e, q, o⟩ => ⟨a, xs, e, .inl (.inl q), o⟩) rfl
    · cases hz
  · split at hz
    · rename_i hc
      cases hz
      simp only [Bool.and_eq_true] at hc
      exact tt _ _ _ _ ea (by simpa [cln] using hc.1) (by simpa [cln] using hc.2) (fun v ⟨a, xs, e, q, o⟩ => ⟨a, xs, e, .inl (.inl q), o⟩) (fun v ⟨a, xs, e, q, o⟩ => ⟨a, xs, e, q, o⟩) rfl
    · cases hz
  · split at hz
    · rename_i hc
      cases hz
      simp only [Bool.and_eq_true] at hc
      exact tt _ _ _ _ ea (by simpa [cln] using hc.1) (by simpa [cln] using hc.2) (fun v ⟨a, xs, e, q, o⟩ => ⟨a, xs, e, q, o⟩) (fun v ⟨a, xs, e, q, o⟩ => ⟨a, xs, e, .inl (.inl q), o⟩) rfl
    · cases hz
  · cases hz
end
end PX

namespace PX
open PySem PySem.Spec PyProof.Rows L2

section
variable {K : PySem.W.Frag} {cl : Clss} {G H G' H' : Hp} {Pn Pn' : List (Nat × Option V)} {G0 G1 Fr : Hp} {Γ : Env} {Ts Us Us' : List (D × V)} {σ : L2.St} {fs : List (List Addr)}
/-- something of what is at hand is changed -/
theorem Rel.mut' (r : Rel K cl G H Pn G0 Fr Γ (Us ++ Ts) σ fs) : ∃ f, f.Nodup ∧ OwnT K cl G H Us f ∧ ∀ (p : Addr) (o : HO) (Us' : List (D × V)), (∀ ys, o ≠ .tup ys) → p ∈ f → (∃ f', (∀ a ∈ f', a ∈ f) ∧ f'.Nodup ∧ OwnT K cl G (upd H p o) Us' f') →
    Rel K cl G (upd H p o) Pn G0 Fr Γ (Us' ++ Ts) σ fs ∧ Keep [] fs fs H (upd H p o) := by
  obtain ⟨ft, h, nd, k⟩ := r.ts
  obtain ⟨f, f2, rfl, h1, h2⟩ := h.split
  rw [List.nodup_append] at nd
  obtain ⟨n1, n2, n3⟩ := nd
  rw [List.nodup_append] at n2
  obtain ⟨n4, n5, n6⟩ := n2
  refine ⟨f, n4, h1, fun p o Us' ho mp ⟨f', sb, nd', h1'⟩ => ?_⟩
  have gp : G p = none := (h1.at p mp).2
  have e1 : ∀ a ∈ fs.flatten, a ≠ p := fun a m z => n3 a m p (List.mem_append_left _ mp) z
  have e2 : ∀ a ∈ f2, a ≠ p := fun a m z => n6 p mp a m z.symm
  refine ⟨⟨r.sl.mono (Ge.refl _) fun a m => ⟨upd_ne (e1 a m), (r.sl.at' a m).2⟩, ⟨f' ++ f2, h1'.append (h2.mono (Ge.refl _) fun a m => ⟨upd_ne (e2 a m), (h2.at a m).2⟩), ?_, fun a u e => ?_⟩, fun a u e => ?_, r.ge, fun q ys e => ?_, r.pn⟩, rfl, fun j _ => ⟨rfl, fun g e a m => upd_ne (e1 a (mem_flat e m))⟩⟩
  · rw [List.nodup_append]
    refine ⟨n1, List.nodup_append.mpr ⟨nd', n5, fun a ma b mb => n6 a (sb a ma) b mb⟩, fun a ma b mb => n3 a ma b ?_⟩
    rcases List.mem_append.mp mb with mb | mb
    · exact List.mem_append_left _ (sb b mb)
    · exact List.mem_append_right _ mb
  · obtain ⟨k1, k2, k3⟩ := k a u e
    refine ⟨by rw [upd_ne fun z => k3 (List.mem_append_right _ (List.mem_append_left _ (by rw [z]; exact mp)))]; exact k1, k2, fun m => k3 ?_⟩
    rcases List.mem_append.mp m with m | m
    · exact List.mem_append_left _ m
    · rcases List.mem_append.mp m with m | m
      · exact List.mem_append_right _ (List.mem_append_left _ (sb a m))
      · exact List.mem_append_right _ (List.mem_append_right _ m)
  · rw [upd_ne fun z => by rw [z, gp] at e; cases e]; exact r.sub a u e
  · by_cases z : q = p
    · subst z; rw [upd_same] at e; exact absurd (Option.some.inj e) (ho ys)
    · rw [upd_ne z] at e; exact r.tg q ys e
theorem Rel.mut {p : Addr} {o : HO} (r : Rel K cl G H Pn G0 Fr Γ (Us ++ Ts) σ fs) (ho : ∀ ys, o ≠ .tup ys)
    (mk : ∀ f, f.Nodup → OwnT K cl G H Us f → p ∈ f ∧ ∃ f', (∀ a ∈ f', a ∈ f) ∧ f'.Nodup ∧ OwnT K cl G (upd H p o) Us' f') : Rel K cl G (upd H p o) Pn G0 Fr Γ (Us' ++ Ts) σ fs ∧ Keep [] fs fs H (upd H p o) := by
  obtain ⟨f, nd, ot, m⟩ := r.mut'
  obtain ⟨mp, q⟩ := mk f nd ot
  exact m p o Us' ho mp q
/-- a list at hand: one more behind -/
theorem Rel.snoc {ds : List D} {y : D} {v : V} {p : Addr} (r : Rel K cl G H Pn G0 Fr Γ ((y, v) :: (.lst true ds, .ref p) :: Ts) σ fs) : ∃ xs, H p = some (.lst xs) ∧ xs.length = ds.length ∧ Rel K cl G (upd H p (.lst (xs ++ [v]))) Pn G0 Fr Γ ((.lst true (ds ++ [y]), .ref p) :: Ts) σ fs := by
  obtain ⟨f, ⟨a, xs, f', e, e1, e2, e3, ow⟩⟩ := r.drop1.top
  cases e
  refine ⟨xs, e1, ow.length.symm, (Rel.mut (Us := [(y, v), (.lst true ds, .ref p)]) (Us' := [(.lst true (ds ++ [y]), .ref p)]) (o := .lst (xs ++ [v])) r (fun _ z => nomatch z) fun g nd h => ?_).1⟩
  obtain ⟨g1, g2, rfl, o1, g3, g4, rfl, ⟨b, ys, f2, eb, h1, h2, rfl, o2⟩, z⟩ := h
  cases eb
  rw [e1] at h1
  cases h1
  rw [show g4 = [] from z, List.append_nil] at nd ⊢
  rw [List.nodup_append] at nd
  obtain ⟨n1, n2, n3⟩ := nd
  have n4 := List.nodup_cons.mp n2
  have k1 : ∀ a ∈ g1, upd H p (.lst (xs ++ [v])) a = H a ∧ G a = none := fun a m => ⟨upd_ne fun z => n3 a m p (.head _) z, (o1.at a m).2⟩
  have k2 : ∀ a ∈ f2, upd H p (.lst (xs ++ [v])) a = H a ∧ G a = none := fun a m => ⟨upd_ne fun z => n4.1 (z ▸ m), (o2.at a m).2⟩
  refine ⟨List.mem_append_right _ (.head _), (p :: (f2 ++ g1)), fun a m => ?_, ?_, p :: (f2 ++ g1), [], by simp, ⟨p, xs ++ [v], f2 ++ g1, rfl, upd_same, h2, rfl, (o2.mono (Ge.refl _) k2).append ?_⟩, rfl⟩
  · rcases List.mem_cons.mp m with rfl | m
    · exact List.mem_append_right _ (.head _)
    · rcases List.mem_append.mp m with m | m
      · exact List.mem_append_right _ (.tail _ m)
      · exact List.mem_append_left _ m
  · refine List.nodup_cons.mpr ⟨fun m => ?_, List.nodup_append.mpr ⟨n4.2, n1, fun a ma b mb z => n3 b mb a (.tail _ ma) z.symm⟩⟩
    rcases List.mem_append.mp m with m | m
    · exact n4.1 m
    · exact n3 p m p (.head _) rfl
  · exact ⟨v, [], g1, [], rfl, by simp, o1.mono (Ge.refl _) k1, rfl, rfl⟩
/-- a slot forgotten -/
theorem Rel.forget {i : Nat} (r : Rel K cl G H Pn G0 Fr Γ Ts σ fs) (hn : ∀ p ∈ Pn, p.1 ≠ i) : Rel K cl G H Pn G0 Fr (Γ.set i none) Ts (σ.set i none) (fs.set i []) := by
  obtain ⟨ft, t, nd, k⟩ := r.ts
  refine ⟨⟨by simp [r.sl.l1], by simp [r.sl.l2], fun j γ s g e3 e4 e5 => ?_⟩, ⟨ft, t, nd.sublist ((flat_sub fs i).append_right _), fun a u q => ⟨(k a u q).1, (k a u q).2.1, fun m => (k a u q).2.2 ?_⟩⟩, r.sub, r.ge, r.tg, fun p m => ?_⟩
  · by_cases z : i = j
    · subst z
      have h1 : i < Γ.length := by have := (List.getElem?_eq_some_iff.mp e3).1; simpa using this
      have h2 : i < fs.length := by have := (List.getElem?_eq_some_iff.mp e5).1; simpa using this
      rw [List.getElem?_set_self h1] at e3
      rw [List.getElem?_set_self h2] at e5
      cases e3; cases e5
      rfl
    · rw [List.getElem?_set_ne z] at e3 e4 e5
      exact r.sl.at_ j γ s g e3 e4 e5
  · rcases List.mem_append.mp m with m | m
    · exact List.mem_append_left _ ((flat_sub fs i).subset m)
    · exact List.mem_append_right _ m
  · rw [List.getElem?_set_ne (fun z => hn p m z.symm)]; exact r.pn p m
/-- back to the slot it came from -/
theorem Rel.put {i : Nat} {d : D} {v : V} (r : Rel K cl G H Pn G0 Fr Γ ((d, v) :: Ts) σ fs) (hv : σ[i]? = some (some v)) : ∃ fs', Rel K cl G H Pn G0 Fr (Γ.set i (some d)) Ts σ fs' ∧ Keep [i] fs fs' H H := by
  have hi : i < Γ.length := by rw [r.sl.l1]; exact (List.getElem?_eq_some_iff.mp hv).1
  obtain ⟨fs', r', k⟩ := r.store hi fun p m e => by
    have := r.pn p m
    rw [e, hv] at this
    exact (Option.some.inj this).symm
  rw [set_same hv] at r'
  exact ⟨fs', r', k⟩

/-! ### the names of a block forgotten, told again -/
def wip (Γ : Env) : List Nat → Env
  | [] => Γ
  | v :: vs => (wip Γ vs).set v none
def wipF (fs : List (List Addr)) : List Nat → List (List Addr)
  | [] => fs
  | v :: vs => (wipF fs vs).set v []
theorem Rel.wip {vs : List Nat} (r : Rel K cl G H Pn G0 Fr Γ Ts σ fs) (hn : ∀ p ∈ Pn, p.1 ∉ vs) : Rel K cl G H Pn G0 Fr (PX.wip Γ vs) Ts (wipe σ vs) (wipF fs vs) := by
  induction vs with
  | nil => exact r
  | cons v vs ih => exact (ih fun p m z => hn p m (.tail _ z)).forget fun p m z => hn p m (z ▸ .head _)
theorem keep_wip {vs : List Nat} : Keep vs fs (wipF fs vs) H H := by
  induction vs with
  | nil => exact Keep.refl
  | cons v vs ih =>
    refine ⟨by simp only [wipF, List.length_set]; exact ih.1, fun j hj => ?_⟩
    have h := ih.2 j fun z => hj (.tail _ z)
    exact ⟨by simp only [wipF]; rw [List.getElem?_set_ne fun z => hj (by rw [z]; exact .head _)]; exact h.1, h.2⟩
theorem Rel.snocK {ds : List D} {y : D} {v : V} {p : Addr} (r : Rel K cl G H Pn G0 Fr Γ ((y, v) :: (.lst true ds, .ref p) :: Ts) σ fs) : ∃ xs, H p = some (.lst xs) ∧ xs.length = ds.length ∧ Rel K cl G (upd H p (.lst (xs ++ [v]))) Pn G0 Fr Γ ((.lst true (ds ++ [y]), .ref p) :: Ts) σ fs ∧ Keep [] fs fs H (upd H p (.lst (xs ++ [v]))) := by
  obtain ⟨xs, h1, h2, r'⟩ := r.snoc
  refine ⟨xs, h1, h2, r', rfl, fun j _ => ⟨rfl, fun f e a m => upd_ne fun z => ?_⟩⟩
  obtain ⟨ft, ⟨f1, f2, rfl, _, f3, f4, rfl, ⟨b, ys, f5, eb, _, _, rfl, _⟩, _⟩, nd, _⟩ := r.ts
  cases eb
  rw [List.nodup_append] at nd
  exact nd.2.2 a (mem_flat e m) p (List.mem_append_right _ (List.mem_append_left _ (.head _))) z
theorem wipe_get (σ : L2.St) (j : Nat) : ∀ vs : List Nat, (wipe σ vs)[j]? = if j ∈ vs then (if j < σ.length then some none else none) else σ[j]?
  | [] => by simp [wipe]
  | v :: vs => by
    simp only [wipe]
    by_cases z : v = j
    · subst z
      by_cases hl : v < σ.length
      · rw [List.getElem?_set_self (by rw [wipe_length]; exact hl)]
        simp [hl]
      · rw [List.getElem?_eq_none (by rw [List.length_set, wipe_length]; omega)]
        simp [hl]
    · rw [List.getElem?_set_ne z, wipe_get σ j vs]
      have : j ≠ v := fun e => z e.symm
      simp [this]
theorem wip_get (Γ : Env) (j : Nat) : ∀ vs : List Nat, (PX.wip Γ vs)[j]? = if j ∈ vs then (if j < Γ.length then some none else none) else Γ[j]?
  | [] => by simp [PX.wip]
  | v :: vs => by
    have hl : (PX.wip Γ vs).length = Γ.length := by
      clear wip_get
      induction vs with
      | nil => rfl
      | cons w ws ih => simp only [PX.wip, List.length_set, ih]
    simp only [PX.wip]
    by_cases z : v = j
    · subst z
      by_cases hl' : v < Γ.length
      · rw [List.getElem?_set_self (by rw [hl]; exact hl')]
        simp [hl']
      · rw [List.getElem?_eq_none (by rw [List.length_set, hl]; omega)]
        simp [hl']
    · rw [List.getElem?_set_ne z, wip_get Γ j vs]
      have : j ≠ v := fun e => z e.symm
      simp [this]
theorem wip_length (Γ : Env) : ∀ vs : List Nat, (PX.wip Γ vs).length = Γ.length
  | [] => rfl
  | v :: vs => by simp only [PX.wip, List.length_set, wip_length Γ vs]
theorem wipe_wipe {σ : L2.St} {vs : List Nat} : wipe (wipe σ vs) vs = wipe σ vs := by
  apply List.ext_getElem?
  intro j
  rw [wipe_get, wipe_get, wipe_length]
  by_cases h : j ∈ vs <;> simp [h]
/-- all slots but vs as they are -/
def pinAll (σ : L2.St) (vs : List Nat) : List (Nat × Option V) := ((List.range σ.length).filter fun j => !vs.contains j).map fun j => (j, (σ[j]?).join)
theorem pinAll_at {σ : L2.St} {vs : List Nat} : ∀ p ∈ pinAll σ vs, (p.1 < σ.length ∧ p.1 ∉ vs) ∧ σ[p.1]? = some p.2 := fun p m => by
  obtain ⟨j, hj, rfl⟩ := List.mem_map.mp m
  obtain ⟨h1, h2⟩ := List.mem_filter.mp hj
  have hl : j < σ.length := by simpa using h1
  refine ⟨⟨hl, by simpa using h2⟩, ?_⟩
  simp only [List.getElem?_eq_getElem hl, Option.join_some]
theorem pinAll_eq {σ σ' : L2.St} {vs : List Nat} (hl : σ'.length = σ.length) (h : ∀ p ∈ pinAll σ vs, σ'[p.1]? = some p.2) : wipe σ' vs = wipe σ vs := by
  apply List.ext_getElem?
  intro j
  rw [wipe_get, wipe_get, hl]
  by_cases hj : j ∈ vs
  · simp [hj]
  · simp only [hj, if_false]
    by_cases h2 : j < σ.length
    · have m : (j, (σ[j]?).join) ∈ pinAll σ vs := List.mem_map.mpr ⟨j, List.mem_filter.mpr ⟨by simpa using h2, by simpa using hj⟩, rfl⟩
      rw [h _ m, List.getElem?_eq_getElem h2, Option.join_some]
    · rw [List.getElem?_eq_none (by omega), List.getElem?_eq_none (by omega)]
/-- the slots of vs as in Γ, the others as in Γ' -/
def resto (Γ Γ' : Env) : List Nat → Env
  | [] => Γ'
  | v :: vs => (resto Γ Γ' vs).set v (Γ[v]?).join
theorem resto_length (Γ Γ' : Env) : ∀ vs, (resto Γ Γ' vs).length = Γ'.length
  | [] => rfl
  | v :: vs => by simp only [resto, List.length_set, resto_length Γ Γ' vs]
theorem resto_get (Γ Γ' : Env) (j : Nat) : ∀ vs : List Nat, (resto Γ Γ' vs)[j]? = if j ∈ vs then (if j < Γ'.length then some (Γ[j]?).join else none) else Γ'[j]?
  | [] => by simp [resto]
  | v :: vs => by
    simp only [resto]
    by_cases z : v = j
    · subst z
      by_cases hl' : v < Γ'.length
      · rw [List.getElem?_set_self (by rw [resto_length]; exact hl')]
        simp [hl']
      · rw [List.getElem?_eq_none (by rw [List.length_set, resto_length]; omega)]
        simp [hl']
    · rw [List.getElem?_set_ne z, resto_get Γ Γ' j vs]
      have : j ≠ v := fun e => z e.symm
      simp [this]
def savedOk (Γ : Env) (vs : List Nat) : Bool := vs.all fun v => match Γ[v]? with
  | some (some d) => cln d
  | _ => true
/-- behind a block: its names as they were ahead of it -/
theorem Rel.resto {G1 H1 : Hp} {Γ1 : Env} {σ1 : L2.St} {fs1 : List (List Addr)} {Ts1 : List (D × V)} {Pn1 : List (Nat × Option V)} {vs : List Nat} (r1 : Rel K cl G1 H1 Pn1 G0 Fr Γ1 Ts1 σ1 fs1) (hs : savedOk Γ1 vs = true) (r : Rel K cl G H Pn G1 Fr Γ Ts (wipe σ1 vs) fs) (hp : ∀ p ∈ Pn1, p.1 ∉ vs → σ1[p.1]? = some p.2) :
    Rel K cl G H Pn1 G0 Fr (resto Γ1 Γ vs) Ts σ1 fs := by
  have lg : Γ.length = σ1.length := by rw [r.sl.l1, wipe_length]
  refine ⟨⟨by rw [resto_length, lg], by rw [r.sl.l2, wipe_length], fun j γ s f e1 e2 e3 => ?_⟩, r.ts, r.sub, r1.ge.trans r.ge, r.tg, r1.pn⟩
  rw [resto_get] at e1
  by_cases hj : j ∈ vs
  · have hl : j < Γ.length := by rw [lg]; exact (List.getElem?_eq_some_iff.mp e2).1
    simp only [hj, if_true, hl, Option.some.injEq] at e1
    -- what the block says of that slot: nothing is owned there
    have q := r.sl.at_ j
    have hw : (wipe σ1 vs)[j]? = some none := by
      rw [wipe_get]
      simp [hj, show j < σ1.length by omega]
    have hf : f = [] := by
      have h1 : j < Γ.length := hl
      have := q (Γ[j]) none f (List.getElem?_eq_getElem h1) hw e3
      cases h : Γ[j] with
      | none => rw [h] at this; exact this
      | some d => rw [h] at this; obtain ⟨v, e, _⟩ := this; cases e
    subst hf
    have h1 : j < Γ1.length := by rw [r1.sl.l1]; exact (List.getElem?_eq_some_iff.mp e2).1
    rw [List.getElem?_eq_getElem h1, Option.join_some] at e1
    cases γ with
    | none => rfl
    | some d =>
      have e4 : Γ1[j]? = some (some d) := by rw [List.getElem?_eq_getElem h1, e1]
      obtain ⟨v, f', e5, e6, o⟩ := r1.sl.get e4
      rw [e2] at e5
      cases e5
      have c : cln d = true := by
        have := List.all_eq_true.mp hs j hj
        rw [e4] at this
        exact this
      exact ⟨v, rfl, (o.of_clean c).ch r.ge⟩
  · simp only [hj, if_false] at e1
    exact r.sl.at_ j γ s f e1 (by rw [wipe_get]; simp [hj, e2]) e3
end

section
variable {cl : Clss} {E : Wt} {X : Cx}
/-! ### list comprehensions -/
/-- no exception -/
def mNoEx {α : Type} (m : M α) : M α := fun Γ => match m Γ with
  | some (.ok a, Γ') => some (.ok a, Γ')
  | _ => none
theorem Sat.noEx {α : Type} {Ex Ex' : Nat → Env → Prop} {m : M α} {Γ : Env} {k : α → Env → Prop} (h : Sat Ex (mNoEx m) Γ k) : Sat Ex' m Γ k := by
  unfold Sat mNoEx at h
  unfold Sat
  split at h
  · exact h.elim
  · rename_i e
    split at e
    · rename_i e2; rw [e2]; cases e; exact h
    · cases e
  · rename_i e
    split at e
    · cases e
    · cases e
def mWip (vs : List Nat) : M Unit := fun Γ => some (.ok (), wip Γ vs)
def mLen (n : Nat) : M Unit := fun Γ => if Γ.length = n then some (.ok (), Γ) else none
theorem Sat.mLen {Ex : Nat → Env → Prop} {n : Nat} {Γ : Env} {k : Unit → Env → Prop} : Sat Ex (mLen n) Γ k ↔ Γ.length = n ∧ k () Γ := by
  unfold Sat PX.mLen
  by_cases h : Γ.length = n
  · rw [if_pos h]; exact ⟨fun q => ⟨h, q⟩, fun q => q.2⟩
  · rw [if_neg h]; exact ⟨fun q => q.elim, fun q => h q.1⟩
def mLcL (n : Nat) (vs : List Nat) (g : D → M Unit) (t : M Bool) (e : M D) : List D → List D → M (List D)
  | [], acc => pure acc
  | d :: ds, acc => do
    g d
    mLen n
    let b ← t
    if b then do
      let y ← e
      mWip vs
      if acc.length < sizeLine then mLcL n vs g t e ds (acc ++ [y]) else mNever
    else do
      mWip vs
      mLcL n vs g t e ds acc
/-- the loop of the block, its names hidden -/
def mHid (vs : List Nat) (m : M (List D)) : M (List D) := fun Γ => if savedOk Γ vs then match m (wip Γ vs) with
  | some (.ok a, Γ') => some (.ok a, resto Γ Γ' vs)
  | _ => none else none
def mLc (it : M (List D)) (n : Nat) (vs : List Nat) (g : D → M Unit) (t : M Bool) (e : M D) : M D := do
  let ds ← it
  let acc ← mHid vs (mLcL n vs g t e ds [])
  pure (.lst true acc)
theorem Sat.mHid {Ex : Nat → Env → Prop} {vs : List Nat} {m : M (List D)} {Γ : Env} {k : List D → Env → Prop} (h : Sat Ex (mHid vs m) Γ k) : savedOk Γ vs = true ∧ Sat (fun _ _ => False) m (wip Γ vs) fun a Γ' => k a (resto Γ Γ' vs) := by
  unfold Sat PX.mHid at h
  by_cases hs : savedOk Γ vs = true
  · rw [if_pos hs] at h
    refine ⟨hs, ?_⟩
    unfold Sat
    cases e : m (wip Γ vs) with
    | none => rw [e] at h; exact h
    | some q =>
      obtain ⟨a, Γ'⟩ := q
      rw [e] at h
      cases a with
      | ok a => exact h
      | ex c => exact h
  · rw [if_neg hs] at h
    exact h.elim
/-- within a block -/
def blkE (n : Nat) (vs : List Nat) : Wt := ⟨fun _ _ => False, (List.range n).filter fun j => !vs.contains j⟩
theorem exOk_blk {K : PySem.W.Frag} {σ : L2.St} {vs : List Nat} {n : Nat} (hn : σ.length = n) {G0 Fr : Hp} : ExOk K cl (blkE n vs) (pinAll σ vs) G0 Fr fun _ _ => False :=
  ⟨fun p m => by
    obtain ⟨⟨h1, h2⟩, _⟩ := pinAll_at p m
    exact List.mem_filter.mpr ⟨by simpa [hn] using h1, by simpa using h2⟩, fun _ _ _ _ _ _ _ x => x.elim⟩
/-- what a comprehension does, in the library's words -/
theorem tlc_of {m : M (List D)} {n : Nat} {vs : List Nat} {g : D → M Unit} {t : M Bool} {e : M D} {W : List Nat} (hv : ∀ j ∈ vs, j ∉ E.refs) (hvW : ∀ j ∈ vs, j ∈ W) {σ : L2.St} {H : Hp} {Q : VK} (hn : σ.length = n)
    {Pn : List (Nat × Option V)} {G0 Fr : Hp} {Γ : Env} {Ts : List (D × V)} {G : Hp} {fs : List (List Addr)} {Ex : Nat → Env → Prop} (r : Rel X.K cl G H Pn G0 Fr Γ Ts σ fs) (ex : ExOk X.K cl E Pn G0 Fr Ex)
    (q : Sat Ex (mLc m n vs g t e) Γ fun d Γ' => ∀ v H' G' fs', Rel X.K cl G' H' Pn G0 Fr Γ' ((d, v) :: Ts) σ fs' → Keep W fs fs' H H' → Q v H') :
    tLc (TIX X.K cl E W m) (TGt X.K cl (blkE n vs) W g) (TTX X.K cl (blkE n vs) W t) (TX X.K cl (blkE n vs) W e) vs σ H Q := by
  refine ⟨Pn, G0, Fr, Γ, Ts, G, fs, Ex, r, ex, (Sat.bind.mp q).imp fun ds Γ1 k J H1 G1 fs1 r1 kp1 io Dl hD => ?_⟩
  obtain ⟨hs, k⟩ := Sat.mHid (Sat.bind.mp k)
  have pnv : ∀ p ∈ Pn, p.1 ∉ vs := fun p m z => hv _ z (ex.1 p m)
  have nil_in : ∀ j ∈ ([] : List Nat), j ∈ W := fun _ z => nomatch z
  obtain ⟨r2, kp2⟩ := Rel.newOwn (Us := []) (Ts := Ts) (d := .lst true []) (o := .lst []) (r1 : Rel X.K cl G1 H1 Pn G0 Fr Γ1 ([] ++ Ts) σ fs1) hD (fun _ z => nomatch z) fun f t => by
    rw [show f = [] from t]
    exact ⟨Dl, [], [], rfl, upd_same, r1.gn hD, rfl, rfl, rfl⟩
  have r3 := (r2.base (Ge.refl _)).wip pnv
  have r3' : Rel X.K cl G1 (upd H1 Dl (.lst [])) (pinAll σ vs) G1 Fr (wip Γ1 vs) ((.lst true [], .ref Dl) :: Ts) (wipe σ vs) (wipF fs1 vs) := ⟨r3.sl, r3.ts, r3.sub, r3.ge, r3.tg, fun p m => by
    obtain ⟨⟨h1, h2⟩, h3⟩ := pinAll_at p m
    rw [wipe_get]
    simp [h2, h3]⟩
  have kp3 : Keep W fs (wipF fs1 vs) H (upd H1 Dl (.lst [])) := (kp1.trans (kp2.mono nil_in)).trans (keep_wip.mono hvW)
  have exb : ExOk X.K cl (blkE n vs) (pinAll σ vs) G1 Fr fun _ _ => False := exOk_blk hn
  have pin_nv : ∀ p ∈ pinAll σ vs, p.1 ∉ vs := fun p m => (pinAll_at p m).1.2
  refine ⟨fun i m H2 => m = ds.length - i ∧ i ≤ ds.length ∧ ∃ Γ acc G fs2, Rel X.K cl G H2 (pinAll σ vs) G1 Fr Γ ((.lst true acc, .ref Dl) :: Ts) (wipe σ vs) fs2 ∧ Keep W fs fs2 H H2 ∧ Sat (fun _ _ => False) (mLcL n vs g t e (ds.drop i) acc) Γ fun acc' Γ' => ∀ v H' G' fs', Rel X.K cl G' H' Pn G0 Fr (resto Γ1 Γ' vs) ((.lst true acc', v) :: Ts) σ fs' → Keep W fs fs' H H' → Q v H', ⟨ds.length, by simp, Nat.zero_le _, _, [], G1, _, r3', kp3, k⟩, ?_⟩
  rintro i m H2 ⟨rfl, hi, Γ2, acc, G2, fs2, r4, kp4, k2⟩
  by_cases hlt : i < ds.length
  · refine .inr ⟨io.go i H2 G2 hlt r4.ge r4.sub, _, fun H' n' => ⟨ds.length - (i + 1), by omega, rfl, hlt, n'⟩, fun x H' y => ?_⟩
    rw [List.drop_eq_getElem_cons hlt] at k2
    obtain ⟨G3, r5, kp5⟩ := io.yld i ds[i] H2 G2 x H' _ G1 Fr Γ2 _ _ fs2 (List.getElem?_eq_getElem hlt) r4.ge r4 y
    refine ⟨pinAll σ vs, G1, Fr, Γ2, _, G3, fs2, _, _, r5, exb, (Sat.bind.mp k2).imp fun _ Γ3 k3 σ3 H3 G4 fs3 r6 kp6 => ?_⟩
    obtain ⟨hl, k3⟩ := Sat.mLen.mp (Sat.bind.mp k3)
    have wp : wipe σ3 vs = wipe σ vs := pinAll_eq (by rw [← r6.sl.l1, hl, hn]) fun p m => r6.pn p m
    have kp7 := (kp4.trans (kp5.mono nil_in)).trans kp6
    refine ⟨wp, pinAll σ vs, G1, Fr, Γ3, _, G4, fs3, _, r6, exb, (Sat.bind.mp k3).imp fun b Γ4 k4 H4 G5 fs4 r7 kp8 => ?_⟩
    cases b with
    | true =>
      rw [if_pos rfl]
      refine ⟨pinAll σ vs, G1, Fr, Γ4, _, G5, fs4, _, r7, exb, (Sat.bind.mp k4).imp fun y Γ5 k5 v H5 G6 fs5 r8 kp9 => ?_⟩
      have k5 : Sat (fun _ _ => False) (if acc.length < sizeLine then mLcL n vs g t e (ds.drop (i + 1)) (acc ++ [y]) else mNever) (wip Γ5 vs) fun acc' Γ' => ∀ v H' G' fs', Rel X.K cl G' H' Pn G0 Fr (resto Γ1 Γ' vs) ((.lst true acc', v) :: Ts) σ fs' → Keep W fs fs' H H' → Q v H' := Sat.bind.mp k5
      by_cases hz : acc.length < sizeLine
      · rw [if_pos hz] at k5
        obtain ⟨xs, h1, h2, r9, kp10⟩ := r8.snocK
        have r10 := r9.wip pin_nv
        rw [wp] at r10
        exact ⟨xs, h1, by omega, wip Γ5 vs, acc ++ [y], G6, _, r10, (((kp7.trans kp8).trans kp9).trans (kp10.mono nil_in)).trans (keep_wip.mono hvW), k5⟩
      · rw [if_neg hz] at k5
        exact k5.elim
    | false =>
      rw [if_neg Bool.false_ne_true]
      have k5 : Sat (fun _ _ => False) (mLcL n vs g t e (ds.drop (i + 1)) acc) (wip Γ4 vs) fun acc' Γ' => ∀ v H' G' fs', Rel X.K cl G' H' Pn G0 Fr (resto Γ1 Γ' vs) ((.lst true acc', v) :: Ts) σ fs' → Keep W fs fs' H H' → Q v H' := Sat.bind.mp k4
      have r10 := r7.wip pin_nv
      rw [wp] at r10
      exact ⟨_, acc, G5, _, r10, (kp7.trans kp8).trans (keep_wip.mono hvW), k5⟩
  · have e : i = ds.length := by omega
    subst e
    rw [List.drop_length] at k2
    refine .inl ⟨io.stop H2 G2 r4.ge r4.sub, (Sat.pure.mp k2) _ H2 G2 fs2 ?_ kp4⟩
    exact r1.resto hs r4 fun p m _ => r1.pn p m
theorem tx_lc {elt tg iter : Expr} {ifs : List Expr} {scope : Scope} {own : List (Str × Nat)} {pos : Pos} {m : M (List D)} {n : Nat} {vs : List Nat} {g : D → M Unit} {t : M Bool} {e : M D} {W : List Nat}
    (hc : X.calm = true) (hN : X.N.Nodup) (hn : X.N.length = n) (hi : PI X tg iter (TIX X.K cl E W m)) (ok : BlkOk X.N X.env.scope scope own) (hvs : own.map (·.2) = vs) (hv : ∀ j ∈ vs, j ∉ E.refs) (hvW : ∀ j ∈ vs, j ∈ W)
    (hg : ∀ (s : Shared) (H : Hp) (C : Addr) (cs : List (Str × Addr)) (fp : List Addr), PG (X.blk s H scope (compEnvC scope cs C X.env) fp) tg (TGt X.K cl (blkE n vs) W g))
    (ht : ∀ (s : Shared) (H : Hp) (C : Addr) (cs : List (Str × Addr)) (fp : List Addr), PTs (X.blk s H scope (compEnvC scope cs C X.env) fp) ifs (TTX X.K cl (blkE n vs) W t))
    (he : ∀ (s : Shared) (H : Hp) (C : Addr) (cs : List (Str × Addr)) (fp : List Addr), PE (X.blk s H scope (compEnvC scope cs C X.env) fp) elt (TX X.K cl (blkE n vs) W e)) (hs : ∀ x, foldedSetIterable iter X.env x = pure x) :
    PE X (.ListComp elt [⟨tg, iter, ifs, 0⟩] scope pos) (TX X.K cl E W (mLc m n vs g t e)) := by
  refine pe_inv (pe_lc hc hN hi ok hg ht he hs) fun pins s σ H Q I ⟨Pn, G0, Fr, Γ, Ts, G, fs, Ex, r, ex, q⟩ => ?_
  rw [hvs]
  exact tlc_of hv hvW (by rw [I.len, hn]) r ex q
/-- the statement's rule, the state looked at first -/
theorem ps_inv {X : Cx} {st : Stmt} {t t' : TS} (h : PS X st t) (w : ∀ pins s σ H D, Inv X pins σ H s → t' D σ H → t D σ H) : PS X st t' := ⟨fun pins s σ H D I q => h.run pins s σ H D I (w pins s σ H D I q)⟩
theorem st_setLc {i : Nat} {y : Str} {py : Pos} {elt tg iter : Expr} {ifs : List Expr} {scope : Scope} {own : List (Str × Nat)} {pos spos : Pos} {m : M (List D)} {n : Nat} {vs : List Nat} {g : D → M Unit} {t : M Bool} {e : M D} {W : List Nat}
    (hc : X.calm = true) (hN : X.N.Nodup) (hn : X.N.length = n) (hy : X.N[i]? = some y) (hyl : X.env.scope.names.lookup y = some .local) (hr : i ∉ E.refs)
    (hsw : swapsWith (.ListComp elt [⟨tg, iter, ifs, 0⟩] scope pos) (some (.Name y py)) spos.line X.env = pure true) (hi : PI X tg iter (TIX X.K cl E W m)) (ok : BlkOk X.N X.env.scope scope own) (hvs : own.map (·.2) = vs) (hv : ∀ j ∈ vs, j ∉ E.refs) (hvW : ∀ j ∈ vs, j ∈ W)
    (hg : ∀ (s : Shared) (H : Hp) (C : Addr) (cs : List (Str × Addr)) (fp : List Addr), PG (X.blk s H scope (compEnvC scope cs C X.env) fp) tg (TGt X.K cl (blkE n vs) W g))
    (ht : ∀ (s : Shared) (H : Hp) (C : Addr) (cs : List (Str × Addr)) (fp : List Addr), PTs (X.blk s H scope (compEnvC scope cs C X.env) fp) ifs (TTX X.K cl (blkE n vs) W t))
    (he : ∀ (s : Shared) (H : Hp) (C : Addr) (cs : List (Str × Addr)) (fp : List Addr), PE (X.blk s H scope (compEnvC scope cs C X.env) fp) elt (TX X.K cl (blkE n vs) W e)) (hs : ∀ x, foldedSetIterable iter X.env x = pure x) :
    PS X (.Assign [.Name y py] (.ListComp elt [⟨tg, iter, ifs, 0⟩] scope pos) spos) (TSt X.K cl E (mAsg (mLc m n vs g t e) (mSet i))) := by
  refine ps_inv (ps_setLc hc hN hy hyl hsw hi ok hg ht he hs) fun pins s σ H D I ⟨Pn, G0, Fr, Γ, Ts, G, fs, Ex, r, ex, q⟩ => ?_
  rw [hvs]
  refine tlc_of hv hvW (by rw [I.len, hn]) r ex ((Sat.bind.mp q).imp fun d Γ1 k v H1 G1 fs1 r1 _ => ?_)
  obtain ⟨hl, k⟩ := Sat.mSet.mp (Sat.bind.mp k)
  obtain ⟨fs2, r2, _⟩ := r1.store hl (ex.nin hr)
  exact (Sat.pure.mp k) _ H1 G1 fs2 r2
/-! the block's tests -/
theorem tts_nil {K : PySem.W.Frag} {W : List Nat} : PTs X [] (TTX K cl E W (pure true)) := ⟨fun pins s σ H Q I ⟨Pn, G0, Fr, Γ, Ts, G, fs, Ex, r, ex, q⟩ => pts_nil.run pins s σ H Q I ((Sat.pure.mp q) H G fs r Keep.refl)⟩
theorem tts_one {K : PySem.W.Frag} {W : List Nat} {c : Expr} {t : M Bool} (h : PT X c (TTX K cl E W t)) : PTs X [c] (TTX K cl E W t) := pts_one h
end
end PX

namespace PX
open PySem PySem.Spec PyProof.Rows L2

section
variable {K : PySem.W.Frag} {cl : Clss} {G H G' H' : Hp} {Pn Pn' : List (Nat × Option V)} {G0 G1 Fr : Hp} {Γ : Env} {Ts Us Us' : List (D × V)} {σ : L2.St} {fs : List (List Addr)}
/-! ### a call's own world: what is handed over; the rest is the others' -/
theorem Rel.frame (r : Rel K cl G H Pn G0 Fr Γ (Us ++ Ts) σ fs) : ∃ Fr', Rel K cl G H [] G Fr' [] Us [] [] ∧
    ∀ G' H' Us', Rel K cl G' H' [] G Fr' [] Us' [] [] → Rel K cl G' H' Pn G0 Fr Γ (Us' ++ Ts) σ fs ∧ Keep [] fs fs H H' := by
  obtain ⟨ft, h, nd, k⟩ := r.ts
  obtain ⟨f, f2, rfl, h1, h2⟩ := h.split
  rw [List.nodup_append] at nd
  obtain ⟨n1, n2, n3⟩ := nd
  rw [List.nodup_append] at n2
  obtain ⟨n4, n5, n6⟩ := n2
  let Fr' : Hp := fun a => match Fr a with
    | some o => some o
    | none => if a ∈ fs.flatten ++ f2 then H a else none
  have fr1 : ∀ a o, Fr a = some o → Fr' a = some o := fun a o e => by show (match Fr a with | some o => some o | none => _) = _; rw [e]
  have fr2 : ∀ a, Fr a = none → a ∈ fs.flatten ++ f2 → Fr' a = H a := fun a e m => by show (match Fr a with | some o => some o | none => _) = _; rw [e]; exact if_pos m
  have fr3 : ∀ a o, Fr' a = some o → Fr a = some o ∨ (Fr a = none ∧ a ∈ fs.flatten ++ f2 ∧ H a = some o) := fun a o e => by
    have e : (match Fr a with | some o => some o | none => if a ∈ fs.flatten ++ f2 then H a else none) = some o := e
    cases q : Fr a with
    | some u => rw [q] at e; exact .inl e
    | none =>
      rw [q] at e
      by_cases m : a ∈ fs.flatten ++ f2
      · exact .inr ⟨rfl, m, by simpa [m] using e⟩
      · simp [m] at e
  have own_in : ∀ a ∈ fs.flatten ++ f2, (∃ o, H a = some o) ∧ G a = none := fun a m => by
    rcases List.mem_append.mp m with m | m
    · obtain ⟨⟨o, e, _⟩, g⟩ := r.sl.at' a m; exact ⟨⟨o, e⟩, g⟩
    · obtain ⟨⟨o, e, _⟩, g⟩ := h2.at a m; exact ⟨⟨o, e⟩, g⟩
  have frn : ∀ a ∈ fs.flatten ++ f2, Fr a = none := fun a m => by
    cases q : Fr a with
    | none => rfl
    | some o =>
      refine absurd ?_ (k a o q).2.2
      rcases List.mem_append.mp m with m | m
      · exact List.mem_append_left _ m
      · exact List.mem_append_right _ (List.mem_append_right _ m)
  refine ⟨Fr', ⟨⟨rfl, rfl, fun i γ s f e => by simp at e⟩, ⟨f, h1, by simpa using n4, fun a o e => ?_⟩, r.sub, Ge.refl _, r.tg, fun p m => nomatch m⟩, fun G' H' Us' r' => ?_⟩
  · rcases fr3 a o e with e | ⟨_, m, e⟩
    · obtain ⟨e1, e2, e3⟩ := k a o e
      exact ⟨e1, e2, fun m => e3 (List.mem_append_right _ (List.mem_append_left _ (by simpa using m)))⟩
    · refine ⟨e, (own_in a m).2, fun m2 => ?_⟩
      have m2 : a ∈ f := by simpa using m2
      rcases List.mem_append.mp m with m | m
      · exact n3 a m a (List.mem_append_left _ m2) rfl
      · exact n6 a m2 a m rfl
  · obtain ⟨fu, hu, ndu, ku⟩ := r'.ts
    have ndu : fu.Nodup := by simpa using ndu
    have kept : ∀ a ∈ fs.flatten ++ f2, (H' a = H a ∧ G' a = none) ∧ a ∉ fu := fun a m => by
      obtain ⟨⟨o, e⟩, g⟩ := own_in a m
      have q : Fr' a = some o := by rw [fr2 a (frn a m) m]; exact e
      obtain ⟨e1, e2, e3⟩ := ku a o q
      exact ⟨⟨e1.trans e.symm, e2⟩, fun z => e3 (by simpa using z)⟩
    refine ⟨⟨r.sl.mono r'.ge fun a m => (kept a (List.mem_append_left _ m)).1, ⟨fu ++ f2, hu.append (h2.mono r'.ge fun a m => (kept a (List.mem_append_right _ m)).1), ?_, fun a o e => ?_⟩, r'.sub, r.ge.trans r'.ge, r'.tg, r.pn⟩, rfl, fun j _ => ⟨rfl, fun g e a m => (kept a (List.mem_append_left _ (mem_flat e m))).1.1⟩⟩
    · refine List.nodup_append.mpr ⟨n1, List.nodup_append.mpr ⟨ndu, n5, fun a ma b mb z => (kept b (List.mem_append_right _ mb)).2 (z ▸ ma)⟩, fun a ma b mb => ?_⟩
      rcases List.mem_append.mp mb with mb | mb
      · exact fun z => (kept a (List.mem_append_left _ ma)).2 (z ▸ mb)
      · exact n3 a ma b (List.mem_append_right _ mb)
    · obtain ⟨e1, e2, e3⟩ := ku a o (fr1 a o e)
      refine ⟨e1, e2, fun m => ?_⟩
      have ne := (k a o e).2.2
      rcases List.mem_append.mp m with m | m
      · exact ne (List.mem_append_left _ m)
      · rcases List.mem_append.mp m with m | m
        · exact e3 (by simpa using m)
        · exact ne (List.mem_append_right _ (List.mem_append_right _ m))
/-- no slots any more -/
theorem Rel.close (r : Rel K cl G H Pn G0 Fr Γ Ts σ fs) : Rel K cl G H [] G0 Fr [] Ts [] [] := by
  obtain ⟨ft, h, nd, k⟩ := r.ts
  exact ⟨⟨rfl, rfl, fun i γ s f e => by simp at e⟩, ⟨ft, h, by simpa using (List.nodup_append.mp nd).2.1, fun a o e => ⟨(k a o e).1, (k a o e).2.1, fun m => (k a o e).2.2 (List.mem_append_right _ (by simpa using m))⟩⟩, r.sub, r.ge, r.tg, fun p m => nomatch m⟩
theorem Owns.list : ∀ {ds : List D} {vs : List V} {fp : List Addr}, Owns K cl G H ds vs fp → ∃ fl : List (List Addr), fl.length = ds.length ∧ fl.flatten = fp ∧ ∀ (i : Nat) (d : D) (v : V) (f : List Addr), ds[i]? = some d → vs[i]? = some v → fl[i]? = some f → Own K cl G H d v f
  | [], _, _, h => by obtain ⟨_, rfl⟩ := h; exact ⟨[], rfl, rfl, fun i d v f e => by simp at e⟩
  | d :: ds, _, _, h => by
    obtain ⟨x, r, f1, f2, rfl, rfl, h1, h2⟩ := h
    obtain ⟨fl, l, e, k⟩ := Owns.list h2
    refine ⟨f1 :: fl, by simp [l], by simp [e], fun i d' v f e1 e2 e3 => ?_⟩
    cases i with
    | zero => cases e1; cases e2; cases e3; exact h1
    | succ i => exact k i d' v f (by simpa using e1) (by simpa using e2) (by simpa using e3)
def entry (n : Nat) (ds : List D) : Env := ds.map some ++ List.replicate (n - ds.length) none
/-- a def's entry -/
theorem Rel.openS {ds : List D} {vs : List V} {N : List Str} {rp : List Nat} (r : Rel K cl G H [] G0 Fr [] (ds.zip vs) [] []) (l : ds.length = vs.length) (hl : vs.length ≤ N.length) (hp : ∀ i ∈ rp, i < vs.length) :
    ∃ fs, Rel K cl G H (rp.map fun i => (i, vs[i]?)) G0 Fr (entry N.length ds) [] (L2.start N vs) fs := by
  obtain ⟨ft, h, nd, k⟩ := r.ts
  obtain ⟨fl, l1, rfl, hk⟩ := (h.owns l).list
  have nd : fl.flatten.Nodup := by simpa using nd
  have e0 : (fl ++ List.replicate (N.length - vs.length) []).flatten = fl.flatten := by simp
  refine ⟨fl ++ List.replicate (N.length - vs.length) [], ⟨by simp [entry, L2.start, l], by simp [L2.start, l1, l], fun i γ s f e1 e2 e3 => ?_⟩, ⟨[], rfl, by rw [e0]; simpa using nd, fun a o e => ?_⟩, r.sub, r.ge, r.tg, fun p m => ?_⟩
  · unfold entry at e1
    unfold L2.start at e2
    by_cases hi : i < ds.length
    · rw [List.getElem?_append_left (by simpa using hi)] at e1
      rw [List.getElem?_append_left (by simpa [← l] using hi)] at e2
      rw [List.getElem?_append_left (by omega)] at e3
      rw [List.getElem?_map, List.getElem?_eq_getElem hi] at e1
      rw [List.getElem?_map, List.getElem?_eq_getElem (by omega)] at e2
      cases e1; cases e2
      exact ⟨_, rfl, hk i _ _ f (List.getElem?_eq_getElem hi) (List.getElem?_eq_getElem (by omega)) e3⟩
    · rw [List.getElem?_append_right (by simpa using Nat.le_of_not_lt hi)] at e1
      rw [List.getElem?_append_right (by omega)] at e3
      have g1 := List.mem_of_getElem? e1
      have g3 := List.mem_of_getElem? e3
      rw [List.mem_replicate] at g1 g3
      rw [g1.2, g3.2]
      rfl
  · obtain ⟨e1, e2, e3⟩ := k a o e
    refine ⟨e1, e2, fun m => e3 ?_⟩
    rw [e0] at m
    simpa using m
  · obtain ⟨i, hi, rfl⟩ := List.mem_map.mp m
    have := hp i hi
    unfold L2.start
    rw [List.getElem?_append_left (by simpa using this), List.getElem?_map, List.getElem?_eq_getElem this]
    rfl
/-! ### arguments: read by place, or handed over -/
def refsOf : List (Nat ⊕ D) → List Nat
  | [] => []
  | .inl i :: as => i :: refsOf as
  | .inr _ :: as => refsOf as
def refPos : Nat → List (Nat ⊕ D) → List Nat
  | _, [] => []
  | k, .inl _ :: as => k :: refPos (k + 1) as
  | k, .inr _ :: as => refPos (k + 1) as
def ArgsAt (σ : L2.St) : List (Nat ⊕ D) → List V → List (D × V) → Prop
  | [], vs, Us => vs = [] ∧ Us = []
  | .inl i :: as, vs, Us => ∃ v r, vs = v :: r ∧ σ[i]? = some (some v) ∧ ArgsAt σ as r Us
  | .inr d :: as, vs, Us => ∃ v r Us', vs = v :: r ∧ Us = (d, v) :: Us' ∧ ArgsAt σ as r Us'
/-- the values of places -/
def PlacesAt (σ : L2.St) : List Nat → List V → Prop
  | [], vs => vs = []
  | i :: is, vs => ∃ v r, vs = v :: r ∧ σ[i]? = some (some v) ∧ PlacesAt σ is r
theorem args_places : ∀ {as : List (Nat ⊕ D)} {vs : List V} {Us : List (D × V)} (pre : List V), ArgsAt σ as vs Us → ∃ rvs, (refPos pre.length as).filterMap (fun i => (pre ++ vs)[i]?) = rvs ∧ PlacesAt σ (refsOf as) rvs
  | [], _, _, pre, h => ⟨_, rfl, rfl⟩
  | .inl i :: as, _, _, pre, h => by
    obtain ⟨v, r, rfl, hv, h⟩ := h
    obtain ⟨rvs, e, q⟩ := args_places (pre ++ [v]) h
    refine ⟨v :: rvs, ?_, v, rvs, rfl, hv, q⟩
    simp only [refPos]
    rw [List.filterMap_cons_some (b := v) (by simp)]
    simpa using e
  | .inr d :: as, _, _, pre, h => by
    obtain ⟨v, r, Us', rfl, rfl, h⟩ := h
    obtain ⟨rvs, e, q⟩ := args_places (pre ++ [v]) h
    refine ⟨rvs, ?_, q⟩
    simp only [refPos]
    simpa using e
def takeArgs : List (Nat ⊕ D) → Env → Option (List D × Env)
  | [], Γ => some ([], Γ)
  | .inl i :: as, Γ => match Γ[i]? with
    | some (some d) => match takeArgs as (Γ.set i none) with
      | some (ds, Γ') => some (d :: ds, Γ')
      | none => none
    | _ => none
  | .inr d :: as, Γ => match takeArgs as Γ with
    | some (ds, Γ') => some (d :: ds, Γ')
    | none => none
theorem Rel.takes : ∀ {as : List (Nat ⊕ D)} {vs : List V} {Us Ts : List (D × V)} {ds : List D} {Γ Γ1 : Env} {fs : List (List Addr)}, Rel K cl G H Pn G0 Fr Γ (Us ++ Ts) σ fs → ArgsAt σ as vs Us → takeArgs as Γ = some (ds, Γ1) →
    ds.length = vs.length ∧ ∃ fs1, Rel K cl G H Pn G0 Fr Γ1 (ds.zip vs ++ Ts) σ fs1 ∧ Keep (refsOf as) fs fs1 H H
  | [], _, _, _, _, _, _, _, r, h, e => by
    obtain ⟨rfl, rfl⟩ := h
    cases e
    exact ⟨rfl, _, r, Keep.refl⟩
  | .inl i :: as, _, Us, Ts, ds, Γ, Γ1, fs, r, h, e => by
    obtain ⟨v, vr, rfl, hv, h⟩ := h
    simp only [takeArgs] at e
    split at e
    · rename_i d hd
      split at e
      · rename_i ds' Γ' e'
        cases e
        obtain ⟨v', e1, r1, k1⟩ := r.take hd
        rw [hv] at e1
        cases e1
        obtain ⟨l, fs1, r2, k2⟩ := Rel.takes r1.rot h e'
        refine ⟨by simp [l], fs1, r2.perm zip_mid, (k1.mono fun j m => ?_).trans (k2.mono fun j m => .tail _ m)⟩
        rw [List.mem_singleton.mp m]; exact .head _
      · cases e
    · cases e
  | .inr d :: as, _, Us, Ts, ds, Γ, Γ1, fs, r, h, e => by
    obtain ⟨v, vr, Us', rfl, rfl, h⟩ := h
    simp only [takeArgs] at e
    split at e
    · rename_i ds' Γ' e'
      cases e
      obtain ⟨l, fs1, r2, k2⟩ := Rel.takes (Rel.rot (Us := Us') r) h e'
      exact ⟨by simp [l], fs1, r2.perm zip_mid, k2⟩
    · cases e
def putBack : List Nat → List D → Env → Option Env
  | [], [], Γ => some Γ
  | i :: is, d :: os, Γ => putBack is os (Γ.set i (some d))
  | _, _, _ => none
theorem Rel.puts : ∀ {is : List Nat} {os : List D} {rvs : List V} {Ts : List (D × V)} {Γ Γ1 : Env} {fs : List (List Addr)}, Rel K cl G H Pn G0 Fr Γ (os.zip rvs ++ Ts) σ fs → PlacesAt σ is rvs → putBack is os Γ = some Γ1 →
    ∃ fs1, Rel K cl G H Pn G0 Fr Γ1 Ts σ fs1 ∧ Keep is fs fs1 H H
  | [], [], _, _, _, _, _, r, h, e => by
    cases e
    exact ⟨_, r, Keep.refl⟩
  | i :: is, d :: os, _, Ts, Γ, Γ1, fs, r, h, e => by
    obtain ⟨v, rr, rfl, hv, h⟩ := h
    obtain ⟨fs1, r1, k1⟩ := Rel.put (Ts := os.zip rr ++ Ts) r hv
    obtain ⟨fs2, r2, k2⟩ := Rel.puts r1 h e
    refine ⟨fs2, r2, (k1.mono fun j m => ?_).trans (k2.mono fun j m => .tail _ m)⟩
    rw [List.mem_singleton.mp m]; exact .head _
  | [], _ :: _, _, _, _, _, _, _, _, e => by cases e
  | _ :: _, [], _, _, _, _, _, _, _, e => by cases e
end

section
variable {K : PySem.W.Frag} {cl : Clss} {E : Wt} {X : Cx}
def TAR (K : PySem.W.Frag) (cl : Clss) (E : Wt) (W : List Nat) (m : M (List (Nat ⊕ D))) : TA := fun σ H Q => ∃ Pn G0 Fr Γ Ts G fs Ex, Rel K cl G H Pn G0 Fr Γ Ts σ fs ∧ ExOk K cl E Pn G0 Fr Ex ∧
  Sat Ex m Γ fun as Γ' => ∀ vs Us H' G' fs', ArgsAt σ as vs Us → Rel K cl G' H' Pn G0 Fr Γ' (Us ++ Ts) σ fs' → Keep W fs fs' H H' → Q vs H'
def mRefA (i : Nat) (n : M (List (Nat ⊕ D))) : M (List (Nat ⊕ D)) := do let _ ← mP (pVar i); let as ← n; pure (.inl i :: as)
def mValA (m : M D) (n : M (List (Nat ⊕ D))) : M (List (Nat ⊕ D)) := do let d ← m; let as ← n; pure (.inr d :: as)
theorem tar_nil {W : List Nat} : PA X [] (TAR K cl E W (pure [])) := pa_nil.weak fun σ H Q ⟨Pn, G0, Fr, Γ, Ts, G, fs, Ex, r, ex, q⟩ => (Sat.pure.mp q) [] [] H G fs ⟨rfl, rfl⟩ r Keep.refl
theorem tar_ref {i : Nat} {x : Str} {pos : Pos} {es : List Expr} {n : M (List (Nat ⊕ D))} {W : List Nat} (hN : X.N[i]? = some x) (hv : Vis X.env.scope x) (hd : (x == ("__debug__" : Str)) = false) (hcd : (x == ("__classdict__" : Str)) = false) (t : PA X es (TAR K cl E W n))
    (hs : starEach (.Name x pos :: es) X.env = (false, eval (.Name x pos) X.env) :: starEach es X.env) : PA X (.Name x pos :: es) (TAR K cl E W (mRefA i n)) := by
  refine (pa_cons (pe_var hN hv hd hcd) t hs).weak fun σ H Q ⟨Pn, G0, Fr, Γ, Ts, G, fs, Ex, r, ex, k⟩ => ?_
  obtain ⟨d, hd, k⟩ := Sat.mP.mp (Sat.bind.mp k)
  obtain ⟨v, f, e1, _, _⟩ := r.sl.get (pVar_some hd)
  exact ⟨v, e1, Pn, G0, Fr, Γ, Ts, G, fs, Ex, r, ex, (Sat.bind.mp k).imp fun as Γ1 k vs Us H1 G1 fs1 aa r1 k1 => (Sat.pure.mp k) (v :: vs) Us H1 G1 fs1 ⟨v, vs, rfl, e1, aa⟩ r1 k1⟩
theorem tar_val {e : Expr} {es : List Expr} {m : M D} {n : M (List (Nat ⊕ D))} {W : List Nat} (h : PE X e (TX K cl E W m)) (t : PA X es (TAR K cl E W n))
    (hs : starEach (e :: es) X.env = (false, eval e X.env) :: starEach es X.env) : PA X (e :: es) (TAR K cl E W (mValA m n)) := by
  refine (pa_cons h t hs).weak fun σ H Q ⟨Pn, G0, Fr, Γ, Ts, G, fs, Ex, r, ex, k⟩ => ?_
  refine ⟨Pn, G0, Fr, Γ, Ts, G, fs, Ex, r, ex, (Sat.bind.mp k).imp fun d Γ1 k v H1 G1 fs1 r1 k1 => ?_⟩
  refine ⟨Pn, G0, Fr, Γ1, _, G1, fs1, Ex, r1, ex, (Sat.bind.mp k).imp fun as Γ2 k vs Us H3 G3 fs3 aa r3 k3 => ?_⟩
  exact (Sat.pure.mp k) (v :: vs) ((d, v) :: Us) H3 G3 fs3 ⟨v, vs, Us, rfl, rfl, aa⟩ (r3.perm List.perm_middle) (k1.trans k3)

/-! ### defs -/
abbrev Fn := List D → Option (R D × List D)
/-- a def's promise; b: it may raise; rp: the parameters that are changed in place -/
def SpF (K : PySem.W.Frag) (cl : Clss) (b : Bool) (n : Nat) (rp : List Nat) (F : Fn) : Sp := fun vs H Q E => vs.length = n ∧ ∃ G0 G Fr ds, ds.length = n ∧ Rel K cl G H [] G0 Fr [] (ds.zip vs) [] [] ∧ match F ds with
  | none => False
  | some (.ok d, os) => ∀ v H' G', Rel K cl G' H' [] G0 Fr [] ((d, v) :: os.zip (rp.filterMap fun i => vs[i]?)) [] [] → Q v H'
  | some (.ex c, os) => b = true ∧ ∀ dd H' G', Rel K cl G' H' [] G0 Fr [] (os.zip (rp.filterMap fun i => vs[i]?)) [] [] → E (.ref (cl c)) dd H'
def mApp (b : Bool) (rp : List Nat) (F : Fn) (as : List (Nat ⊕ D)) : M D := fun Γ => if refPos 0 as = rp then match takeArgs as Γ with
  | none => none
  | some (ds, Γ1) => match F ds with
    | none => none
    | some (.ok d, os) => match putBack (refsOf as) os Γ1 with
      | none => none
      | some Γ2 => some (.ok d, Γ2)
    | some (.ex c, os) => match putBack (refsOf as) os Γ1 with
      | none => none
      | some Γ2 => if b then some (.ex c, Γ2) else none
  else none
def mCall (b : Bool) (rp : List Nat) (F : Fn) (m : M (List (Nat ⊕ D))) : M D := do let as ← m; mApp b rp F as
/-- what is wanted of an exception, in the library's words -/
def exk (cl : Clss) (E : Wt) : XK := fun cls _ H => ∃ c, cls = .ref (cl c) ∧ E.ex c H
/-- what a call asks -/
theorem tcall_of {b : Bool} {n : Nat} {rp : List Nat} {F : Fn} {m : M (List (Nat ⊕ D))} {W : List Nat} (hn : ∀ Γ as Γ', m Γ = some (.ok as, Γ') → as.length = n ∧ ∀ j ∈ refsOf as, j ∈ W) {σ : L2.St} {H : Hp} {Q : VK} (h : TX K cl E W (mCall b rp F m) σ H Q) :
    tCall (SpF K cl b n rp F) [] (exk cl E) (TAR K cl E W m) σ H Q := by
  obtain ⟨Pn, G0, Fr, Γ, Ts, G, fs, Ex, r, ex, q⟩ := h
  refine ⟨Pn, G0, Fr, Γ, Ts, G, fs, Ex, r, ex, (Sat.bind.mp q).imp2 fun as Γ1 em k vs Us H1 G1 fs1 aa r1 k1 => ?_⟩
  obtain ⟨la, hW⟩ := hn _ _ _ em
  rw [List.append_nil]
  have lv : vs.length = n := by
    clear k em hW r1
    have aux : ∀ {as : List (Nat ⊕ D)} {vs : List V} {Us : List (D × V)}, ArgsAt σ as vs Us → vs.length = as.length := by
      intro as
      induction as with
      | nil => rintro _ _ ⟨rfl, _⟩; rfl
      | cons a as ih =>
        intro vs Us h
        cases a with
        | inl i => obtain ⟨v, r, rfl, _, h⟩ := h; simp [ih h]
        | inr d => obtain ⟨v, r, Us', rfl, _, h⟩ := h; simp [ih h]
    rw [aux aa, la]
  unfold Sat mApp at k
  by_cases hp : refPos 0 as = rp
  · rw [if_pos hp] at k
    cases et : takeArgs as Γ1 with
    | none => rw [et] at k; exact k.elim
    | some p =>
      obtain ⟨ds, Γ2⟩ := p
      rw [et] at k
      dsimp only at k
      obtain ⟨l, fs2, r2, k2⟩ := Rel.takes r1 aa et
      obtain ⟨rvs, er, pl⟩ := args_places [] aa
      rw [List.length_nil, hp] at er
      simp only [List.nil_append] at er
      obtain ⟨Fr', r3, back⟩ := r2.frame
      refine ⟨lv, G1, G1, Fr', ds, by omega, r3, ?_⟩
      cases ef : F ds with
      | none => rw [ef] at k; exact k.elim
      | some p =>
        obtain ⟨res, os⟩ := p
        rw [ef] at k
        cases res with
        | ok d =>
          dsimp only at k
          intro v H' G' r4
          rw [er] at r4
          obtain ⟨r5, k5⟩ := back G' H' _ r4
          cases eb : putBack (refsOf as) os Γ2 with
          | none => rw [eb] at k; exact k.elim
          | some Γ3 =>
            rw [eb] at k
            obtain ⟨fs6, r6, k6⟩ := Rel.puts (Ts := (d, v) :: Ts) (r5.rot) pl eb
            exact k v H' G' fs6 r6 (((k1.trans (k2.mono hW)).trans (k5.mono fun j z => nomatch z)).trans (k6.mono hW))
        | ex c =>
          dsimp only at k
          cases eb : putBack (refsOf as) os Γ2 with
          | none => rw [eb] at k; exact k.elim
          | some Γ3 =>
            rw [eb] at k
            cases b with
            | false => exact k.elim
            | true =>
              refine ⟨rfl, fun dd H' G' r4 => ⟨c, rfl, ?_⟩⟩
              rw [er] at r4
              obtain ⟨r5, k5⟩ := back G' H' _ r4
              obtain ⟨fs6, r6, k6⟩ := Rel.puts r5 pl eb
              exact ex.2 c Γ3 σ Ts H' G' fs6 k r6
  · rw [if_neg hp] at k
    exact k.elim
theorem args_len_cons {m : M (List (Nat ⊕ D))} {n : Nat} {W : List Nat} {i : Nat} (hi : i ∈ W) (h : ∀ Γ as Γ', m Γ = some (.ok as, Γ') → as.length = n ∧ ∀ j ∈ refsOf as, j ∈ W) : ∀ Γ as Γ', mRefA i m Γ = some (.ok as, Γ') → as.length = n + 1 ∧ ∀ j ∈ refsOf as, j ∈ W := by
  intro Γ as Γ' e
  simp only [mRefA, M.bind_run] at e
  split at e
  · cases e
  · split at e
    · cases e
    · rename_i e2
      cases e
      obtain ⟨l, w⟩ := h _ _ _ e2
      refine ⟨by simp [l], fun j m => ?_⟩
      rcases List.mem_cons.mp (show j ∈ i :: refsOf _ from m) with rfl | m
      · exact hi
      · exact w j m
    · cases e
  · cases e
theorem args_len_val {m : M D} {n' : M (List (Nat ⊕ D))} {n : Nat} {W : List Nat} (h : ∀ Γ as Γ', n' Γ = some (.ok as, Γ') → as.length = n ∧ ∀ j ∈ refsOf as, j ∈ W) : ∀ Γ as Γ', mValA m n' Γ = some (.ok as, Γ') → as.length = n + 1 ∧ ∀ j ∈ refsOf as, j ∈ W := by
  intro Γ as Γ' e
  simp only [mValA, M.bind_run] at e
  split at e
  · cases e
  · split at e
    · cases e
    · rename_i e2
      cases e
      obtain ⟨l, w⟩ := h _ _ _ e2
      exact ⟨by simp [l], w⟩
    · cases e
  · cases e
theorem args_len_nil {W : List Nat} : ∀ (Γ : Env) (as : List (Nat ⊕ D)) (Γ' : Env), (pure [] : M (List (Nat ⊕ D))) Γ = some (.ok as, Γ') → as.length = 0 ∧ ∀ j ∈ refsOf as, j ∈ W := by
  intro Γ as Γ' e
  cases e
  exact ⟨rfl, fun j m => nomatch m⟩
/-! a call of a def of the program -/
theorem tx_call {CX : CXT} {k k' : Nat} {f : Addr} {fd : FuncData} {ps : List Str} {b : Bool} {n : Nat} {rp : List Nat} {F : Fn} {x : Str} {p pos : Pos} {e : Expr} {es : List Expr} {m : M (List (Nat ⊕ D))} {W : List Nat}
    (hF : FnOk X.prog X.w X.K X.mg X.base CX k f fd ps (SpF X.K cl b n rp F)) (hr : Room k' X.A) (hk' : k ≤ k') (hg : Gl X x) (hm : X.mg x = some (.ref f)) (hk : PySem.W.keepIn X.K (.ref f) = true) (hb : Binds X.K fd ps []) (hx : Passes CX X (exk cl E))
    (ha : PA X (e :: es) (TAR X.K cl E W m)) (hn : ∀ Γ as Γ', m Γ = some (.ok as, Γ') → as.length = n ∧ ∀ j ∈ refsOf as, j ∈ W) (hdb : (x == ("__debug__" : Str)) = false) (he : starEach (e :: es) X.env = (false, eval e X.env) :: starEach es X.env) (hpl : (backTo pos (starEach es X.env)).any (·.1) = false) :
    PE X (.Call (.Name x p) (e :: es) [] pos) (TX X.K cl E W (mCall b rp F m)) :=
  (pe_call hF (hr.mono hk') hg hm hk hb .nil hx ha hdb he hpl).weak fun σ H Q h => tcall_of hn h
theorem tx_call0 {CX : CXT} {k k' : Nat} {f : Addr} {fd : FuncData} {ps : List Str} {b : Bool} {F : Fn} {x : Str} {p pos : Pos} {W : List Nat}
    (hF : FnOk X.prog X.w X.K X.mg X.base CX k f fd ps (SpF X.K cl b 0 [] F)) (hr : Room k' X.A) (hk' : k ≤ k') (hg : Gl X x) (hm : X.mg x = some (.ref f)) (hk : PySem.W.keepIn X.K (.ref f) = true) (hb : Binds X.K fd ps []) (hx : Passes CX X (exk cl E)) (hdb : (x == ("__debug__" : Str)) = false) :
    PE X (.Call (.Name x p) [] [] pos) (TX X.K cl E W (mCall b [] F (pure []))) :=
  (pe_call0 hF (hr.mono hk') hg hm hk hb .nil hx hdb).weak fun σ H Q h => by
    have h2 := tcall_of (n := 0) args_len_nil h
    obtain ⟨Pn, G0, Fr, Γ, Ts, G, fs, Ex, r, ex, q⟩ := h2
    exact (Sat.pure.mp q) [] [] H G fs ⟨rfl, rfl⟩ r Keep.refl

/-! ### a def's body -/
def outs : List Nat → Env → Option (List D)
  | [], _ => some []
  | i :: is, Γ => match Γ[i]? with
    | some (some d) => match outs is (Γ.set i none) with
      | some ds => some (d :: ds)
      | none => none
    | _ => none
def runF (n : Nat) (rp : List Nat) (mb : M Fl) : Fn := fun ds => match mb (entry n ds) with
  | none => none
  | some (.ok (.rt d), Γ') => match outs rp Γ' with
    | some os => some (.ok d, os)
    | none => none
  | some (.ok .nx, Γ') => match outs rp Γ' with
    | some os => some (.ok .non, os)
    | none => none
  | some (.ok _, _) => none
  | some (.ex c, Γ') => match outs rp Γ' with
    | some os => some (.ex c, os)
    | none => none
theorem Rel.outs {G H G0 Fr : Hp} {σ : L2.St} {vs : List V} {Pn : List (Nat × Option V)} : ∀ {rp : List Nat} {os : List D} {Γ : Env} {Ts : List (D × V)} {fs : List (List Addr)}, Rel K cl G H Pn G0 Fr Γ Ts σ fs → (∀ i ∈ rp, (i, vs[i]?) ∈ Pn) → PX.outs rp Γ = some os →
    ∃ Γ1 fs1, Rel K cl G H Pn G0 Fr Γ1 (os.zip (rp.filterMap fun i => vs[i]?) ++ Ts) σ fs1
  | [], _, Γ, Ts, fs, r, _, e => by cases e; exact ⟨Γ, fs, r⟩
  | i :: is, os, Γ, Ts, fs, r, hp, e => by
    simp only [PX.outs] at e
    split at e
    · rename_i d hd
      split at e
      · rename_i ds e'
        cases e
        obtain ⟨v, e1, r1, _⟩ := r.take hd
        have e2 := r.pn _ (hp i (.head _))
        have e3 : vs[i]? = some v := by
          have : σ[i]? = some vs[i]? := e2
          rw [e1] at this
          exact (Option.some.inj this).symm
        obtain ⟨Γ1, fs1, r2⟩ := Rel.outs r1 (fun j m => hp j (.tail _ m)) e'
        refine ⟨Γ1, fs1, ?_⟩
        rw [List.filterMap_cons_some e3]
        exact r2.perm List.perm_middle
      · cases e
    · cases e
/-- a def of the text keeps its promise: no exception -/
theorem fn_ok {P : Program} {w : World} {mg : Str → Option Value} {base : Heap} {x qual : Str} {st : Stmt} {f : Addr} {fd : FuncData} {N ps : List Str} {k n : Nat} {rp : List Nat} {mb : M Fl} (Fu : Fun K x qual st f fd) (S : FnScope N ps (defScope st)) (hn : N.length = n) (hps : ps.length ≤ n) (hrp : ∀ i ∈ rp, i < ps.length)
    (hbody : ∀ (cdv : Value) (A : Around) (outer : List PySem.Env) (s : Shared) (H : Hp) (E : XK), Room k (A.deeper (envOfC qual (defScope st) s.heap.objs.size f cdv)) →
      PSs (cxOf CX0 P w K mg base N qual (defScope st) f cdv A outer s H E).nox (defBody st) (TSt K cl ⟨fun _ _ => False, rp⟩ mb)) : FnOk P w K mg base CX0 (k + 1) f fd ps (SpF K cl false ps.length rp (runF n rp mb)) := by
  refine Fu.ok S (fun vs H Q E h => h.1) fun cdv A outer s H vs Q E hr h => ⟨_, hbody cdv A outer s H E hr, ?_⟩
  obtain ⟨lv, G0, G, Fr, ds, ld, r, h⟩ := h
  obtain ⟨fs, r1⟩ := r.openS (N := N) (rp := rp) (by omega) (by omega) (fun i m => by have := hrp i m; omega)
  refine ⟨_, G0, Fr, _, [], G, fs, fun _ _ => False, r1, ⟨fun p m => ?_, fun _ _ _ _ _ _ _ z => z.elim⟩, ?_⟩
  · obtain ⟨i, hi, rfl⟩ := List.mem_map.mp m
    exact hi
  rw [hn]
  unfold runF at h
  unfold Sat
  have pins : ∀ i ∈ rp, (i, vs[i]?) ∈ rp.map fun i => (i, vs[i]?) := fun i m => List.mem_map.mpr ⟨i, m, rfl⟩
  cases e : mb (entry n ds) with
  | none => rw [e] at h; exact h
  | some q =>
    obtain ⟨res, Γ'⟩ := q
    rw [e] at h
    cases res with
    | ok fl =>
      cases fl with
      | rt d =>
        dsimp only at h
        intro v σ' H' G' fs' r2
        cases eo : PX.outs rp Γ' with
        | none => rw [eo] at h; exact h.elim
        | some os =>
          rw [eo] at h
          obtain ⟨Γ1, fs1, r3⟩ := r2.outs pins eo
          exact h v H' G' (r3.close.perm (by simpa using (List.perm_middle (a := (d, v)) (l₁ := os.zip (rp.filterMap fun i => vs[i]?)) (l₂ := []))))
      | nx =>
        dsimp only at h
        intro σ' H' G' fs' r2
        cases eo : PX.outs rp Γ' with
        | none => rw [eo] at h; exact h.elim
        | some os =>
          rw [eo] at h
          obtain ⟨Γ1, fs1, r3⟩ := r2.outs pins eo
          have r4 := r3.close
          rw [List.append_nil] at r4
          exact h .non H' G' (r4.push ⟨rfl, rfl⟩)
      | bk => exact h.elim
      | ct => exact h.elim
    | ex c =>
      dsimp only at h
      cases eo : PX.outs rp Γ' with
      | none => rw [eo] at h; exact h.elim
      | some os => rw [eo] at h; exact absurd h.1 (by simp)
end
end PX

namespace PX
open PySem PySem.Spec PyProof.Rows L2

/-! ### places: a way of subscripts down a tree of one's own -/
def findI (k : D) : List D → Option Nat
  | [] => none
  | z :: ks => if sameK z k then some 0 else (findI k ks).map (· + 1)
def subIx : D → D → Option Nat
  | .lst true ds, .int i => ixN ds.length i
  | .tup ds, .int i => ixN ds.length i
  | .dic true t ks _, k => if keyOk t k then findI k ks else none
  | _, _ => none
def kids : D → List D
  | .lst _ ds => ds
  | .tup ds => ds
  | .dic _ _ _ ds => ds
  | _ => []
def setKid : D → Nat → D → D
  | .lst o ds, j, c => .lst o (ds.set j c)
  | .tup ds, j, c => .tup (ds.set j c)
  | .dic o t ks ds, j, c => .dic o t ks (ds.set j c)
  | d, _, _ => d
def getAt : D → List D → Option D
  | d, [] => some d
  | d, k :: ks => match subIx d k with
    | none => none
    | some j => match (kids d)[j]? with
      | none => none
      | some c => getAt c ks
def setAt (d : D) : List D → D → Option D
  | [], e => some e
  | k :: ks, e => match subIx d k with
    | none => none
    | some j => match (kids d)[j]? with
      | none => none
      | some c => match setAt c ks e with
        | none => none
        | some c' => some (setKid d j c')
termination_by ks => ks.length

/-- the same way by values -/
def StpV (H : Hp) (v : V) (k : D) (x : V) : Prop := ∃ a u, v = .ref a ∧ H a = some u ∧
  ((∃ xs i, u = .lst xs ∧ k = .int i ∧ L2.atI xs i = some x) ∨ (∃ xs i, u = .tup xs ∧ k = .int i ∧ L2.atI xs i = some x) ∨
   ∃ t ks xs j, DicOk t ks u xs ∧ keyOk t k = true ∧ findI k ks = some j ∧ xs[j]? = some x)
def RchV (H : Hp) : V → List D → V → Prop
  | v, [], u => u = v
  | v, k :: ks, u => ∃ x, StpV H v k x ∧ RchV H x ks u
theorem DicOk.inj {t t' : Bool} {ks ks' : List D} {u : HO} {xs xs' : List V} (a : DicOk t ks u xs) (b : DicOk t' ks' u xs') : ks = ks' ∧ xs = xs' := by
  cases t <;> cases t' <;> obtain ⟨kv, rfl, rfl, rfl, _⟩ := a <;> obtain ⟨kv', e, rfl, rfl, _⟩ := b <;> cases e <;> exact ⟨rfl, rfl⟩
theorem StpV.det {H : Hp} {v : V} {k : D} {x y : V} (a : StpV H v k x) (b : StpV H v k y) : x = y := by
  obtain ⟨p, u, rfl, e, h⟩ := a
  obtain ⟨q, w, eq, e', h'⟩ := b
  cases eq
  rw [e] at e'
  cases e'
  rcases h with ⟨xs, i, rfl, rfl, h⟩ | ⟨xs, i, rfl, rfl, h⟩ | ⟨t, ks, xs, j, dk, _, hj, h⟩
  · rcases h' with ⟨ys, i', e1, e2, h'⟩ | ⟨ys, i', e1, e2, h'⟩ | ⟨t, ks, ys, j, dk, _⟩
    · cases e1; cases e2; rw [h] at h'; exact Option.some.inj h'
    · cases e1
    · cases t <;> obtain ⟨_, z, _⟩ := dk <;> cases z
  · rcases h' with ⟨ys, i', e1, e2, h'⟩ | ⟨ys, i', e1, e2, h'⟩ | ⟨t, ks, ys, j, dk, _⟩
    · cases e1
    · cases e1; cases e2; rw [h] at h'; exact Option.some.inj h'
    · exact absurd rfl (dk.ntup xs)
  · rcases h' with ⟨ys, i', e1, e2, h'⟩ | ⟨ys, i', e1, e2, h'⟩ | ⟨t', ks', ys, j', dk', _, hj', h'⟩
    · subst e1; cases t <;> obtain ⟨_, z, _⟩ := dk <;> cases z
    · subst e1; exact absurd rfl (dk.ntup ys)
    · obtain ⟨rfl, rfl⟩ := dk.inj dk'
      rw [hj] at hj'
      cases hj'
      rw [h] at h'
      exact Option.some.inj h'
theorem RchV.det {H : Hp} : ∀ {ks : List D} {v x y : V}, RchV H v ks x → RchV H v ks y → x = y
  | [], _, _, _, a, b => a.trans b.symm
  | _ :: _, _, _, _, ⟨x, s, a⟩, ⟨y, s', b⟩ => by
    cases s.det s'
    exact RchV.det a b

section
variable {K : PySem.W.Frag} {cl : Clss} {G H G' H' : Hp} {Pn Pn' : List (Nat × Option V)} {G0 G1 Fr : Hp} {Γ : Env} {Ts Us Us' : List (D × V)} {σ : L2.St} {fs : List (List Addr)}
def TupS (G H : Hp) : Prop := ∀ a xs, G a = some (.tup xs) → H a = some (.tup xs)
/-- an item apart -/
theorem Owns.apart : ∀ {ds : List D} {xs : List V} {fp : List Addr} {j : Nat} {c : D}, Owns K cl G H ds xs fp → ds[j]? = some c → ∃ x fe rest, xs[j]? = some x ∧ Own K cl G H c x fe ∧ fp.Perm (fe ++ rest) ∧
    ∀ H' c' fe', Own K cl G H' c' x fe' → (∀ a ∈ rest, H' a = H a) → ∃ f', Owns K cl G H' (ds.set j c') xs f' ∧ f'.Perm (fe' ++ rest)
  | [], _, _, _, _, _, e => by simp at e
  | d :: ds, _, _, 0, c, h, e => by
    obtain ⟨x, r, f1, f2, rfl, rfl, h1, h2⟩ := h
    cases e
    refine ⟨x, f1, f2, rfl, h1, .refl _, fun H' c' fe' o k => ⟨fe' ++ f2, ⟨x, r, fe', f2, rfl, rfl, o, h2.mono (Ge.refl _) fun a m => ⟨k a m, (h2.at a m).2⟩⟩, .refl _⟩⟩
  | d :: ds, _, _, j + 1, c, h, e => by
    obtain ⟨x, r, f1, f2, rfl, rfl, h1, h2⟩ := h
    obtain ⟨y, fe, rest, e1, o, p, back⟩ := Owns.apart (j := j) h2 (by simpa using e)
    have mid : ∀ g : List Addr, (f1 ++ (g ++ rest)).Perm (g ++ (f1 ++ rest)) := fun g => by
      rw [← List.append_assoc, ← List.append_assoc]
      exact List.perm_append_comm.append_right _
    refine ⟨y, fe, f1 ++ rest, by simpa using e1, o, (p.append_left f1).trans (mid fe), fun H' c' fe' o' k => ?_⟩
    obtain ⟨f', ow, p'⟩ := back H' c' fe' o' fun a m => k a (List.mem_append_right _ m)
    exact ⟨f1 ++ f', ⟨x, r, f1, f', rfl, rfl, h1.mono (Ge.refl _) fun a m => ⟨k a (List.mem_append_left _ m), (h1.at a m).2⟩, ow⟩, (p'.append_left f1).trans (mid fe')⟩
/-- a node of one's own, with its items -/
theorem Own.node (sb : Sub G H) {d k : D} {j : Nat} {v : V} {fp : List Addr} (o : Own K cl G H d v fp) (hj : subIx d k = some j) : ∃ a u xs hd f, v = .ref a ∧ H a = some u ∧ fp = hd ++ f ∧ Owns K cl G H (kids d) xs f ∧
    (∀ x, xs[j]? = some x → StpV H v k x) ∧ (∀ x H', xs[j]? = some x → (∀ b ∈ fp, H' b = H b) → TupS G H' → StpV H' v k x) ∧
    ∀ H' c' f', TupS G H' → (∀ b ∈ hd, H' b = H b) → Owns K cl G H' ((kids d).set j c') xs f' → Own K cl G H' (setKid d j c') v (hd ++ f') := by
  cases d with
  | lst b ds =>
    cases b with
    | false => cases k <;> cases hj
    | true =>
      cases k with
      | int i =>
        obtain ⟨a, xs, f, rfl, e, n, rfl, ow⟩ := o
        have at_ : ∀ x, xs[j]? = some x → L2.atI xs i = some x := fun x h => by unfold L2.atI; rw [← ow.length, show ixN ds.length i = some j from hj]; exact h
        exact ⟨a, _, xs, [a], f, rfl, e, rfl, ow, fun x h => ⟨a, _, rfl, e, .inl ⟨xs, i, rfl, rfl, at_ x h⟩⟩, fun x H' h k _ => ⟨a, _, rfl, (k a (.head _)).trans e, .inl ⟨xs, i, rfl, rfl, at_ x h⟩⟩,
          fun H' c' f' _ k ow' => ⟨a, xs, f', rfl, (k a (.head _)).trans e, n, rfl, ow'⟩⟩
      | _ => cases hj
  | tup ds =>
    cases k with
    | int i =>
      obtain ⟨a, xs, rfl, e, ow⟩ := o
      have at_ : ∀ x, xs[j]? = some x → L2.atI xs i = some x := fun x h => by unfold L2.atI; rw [← ow.length, show ixN ds.length i = some j from hj]; exact h
      exact ⟨a, _, xs, [], fp, rfl, sb _ _ e, rfl, ow, fun x h => ⟨a, _, rfl, sb _ _ e, .inr (.inl ⟨xs, i, rfl, rfl, at_ x h⟩)⟩, fun x H' h _ s' => ⟨a, _, rfl, s' _ _ e, .inr (.inl ⟨xs, i, rfl, rfl, at_ x h⟩)⟩,
        fun H' c' f' _ _ ow' => ⟨a, xs, rfl, e, ow'⟩⟩
    | _ => cases hj
  | dic b t ks ds =>
    cases b with
    | false => cases k <;> cases hj
    | true =>
      simp only [subIx] at hj
      split at hj
      · rename_i ok
        obtain ⟨a, u, xs, f, rfl, e, n, dk, rfl, ow⟩ := o
        exact ⟨a, u, xs, [a], f, rfl, e, rfl, ow, fun x h => ⟨a, u, rfl, e, .inr (.inr ⟨t, ks, xs, j, dk, ok, hj, h⟩)⟩, fun x H' h k _ => ⟨a, u, rfl, (k a (.head _)).trans e, .inr (.inr ⟨t, ks, xs, j, dk, ok, hj, h⟩)⟩,
          fun H' c' f' _ k ow' => ⟨a, u, xs, f', rfl, (k a (.head _)).trans e, n, dk, rfl, ow'⟩⟩
      · cases hj
  | _ => cases k <;> cases hj
/-- what stands at a place, apart from the rest -/
theorem Own.apart (sb : Sub G H) : ∀ {ks : List D} {d e : D} {v : V} {fp : List Addr}, Own K cl G H d v fp → getAt d ks = some e → ∃ u fe rest, RchV H v ks u ∧ Own K cl G H e u fe ∧ fp.Perm (fe ++ rest) ∧
    (∀ H', (∀ a ∈ fp, H' a = H a) → TupS G H' → RchV H' v ks u) ∧
    ∀ H' e' fe', Own K cl G H' e' u fe' → (∀ a ∈ rest, H' a = H a) → TupS G H' → ∃ d' fp', setAt d ks e' = some d' ∧ Own K cl G H' d' v fp' ∧ fp'.Perm (fe' ++ rest)
  | [], d, e, v, fp, o, h => by
    cases h
    exact ⟨v, fp, [], rfl, o, by simp, fun _ _ _ => rfl, fun H' e' fe' o' _ _ => ⟨e', fe', by unfold setAt; rfl, o', by simp⟩⟩
  | k :: ks, d, e, v, fp, o, h => by
    simp only [getAt] at h
    split at h
    · cases h
    · rename_i j hj
      split at h
      · cases h
      · rename_i c hc
        obtain ⟨a, w, xs, hd, f, rfl, ew, rfl, ow, st, st', mk⟩ := o.node sb hj
        obtain ⟨x, fe1, rest1, hx, o1, p1, back1⟩ := ow.apart hc
        obtain ⟨u, fe, rest, r2, o2, p2, keep2, back2⟩ := Own.apart sb o1 h
        have P : ∀ g : List Addr, (hd ++ (g ++ rest ++ rest1)).Perm (g ++ (hd ++ (rest ++ rest1))) := fun g => by
          rw [List.append_assoc g rest rest1, ← List.append_assoc hd, ← List.append_assoc g hd]
          exact List.perm_append_comm.append_right _
        refine ⟨u, fe, hd ++ (rest ++ rest1), ⟨x, st x hx, r2⟩, o2, ((p1.trans (p2.append_right rest1)).append_left hd).trans (P fe), fun H' k' s' => ⟨x, st' x H' hx k' s', keep2 H' (fun b m => k' b ?_) s'⟩, fun H' e' fe' o' k' s' => ?_⟩
        · exact List.mem_append_right _ (p1.mem_iff.mpr (List.mem_append_left _ m))
        · obtain ⟨c', fp', hs, o3, p3⟩ := back2 H' e' fe' o' (fun b m => k' b (List.mem_append_right _ (List.mem_append_left _ m))) s'
          obtain ⟨f', ow', p4⟩ := back1 H' c' fp' o3 fun b m => k' b (List.mem_append_right _ (List.mem_append_right _ m))
          refine ⟨setKid d j c', hd ++ f', by rw [setAt.eq_def]; simp only [hj, hc, hs], mk H' c' f' s' (fun b m => k' b (List.mem_append_left _ m)) ow', ((p4.trans (p3.append_right rest1)).append_left hd).trans (P fe')⟩
end

section
variable {cl : Clss} {E : Wt} {X : Cx}
/-! ### expressions that are places -/
def TL (K : PySem.W.Frag) (cl : Clss) (i : Nat) (pp : PM (List D)) : TE := fun σ H Q => ∃ Pn G0 Fr Γ Ts G fs, Rel K cl G H Pn G0 Fr Γ Ts σ fs ∧ ∃ d v ks e, Γ[i]? = some (some d) ∧ σ[i]? = some (some v) ∧ pp Γ = some ks ∧ getAt d ks = some e ∧ ∀ u, RchV H v ks u → Q u H
theorem tl_name {i : Nat} {x : Str} {pos : Pos} (hN : X.N[i]? = some x) (hv : Vis X.env.scope x) (hd : (x == ("__debug__" : Str)) = false) (hcd : (x == ("__classdict__" : Str)) = false) : PE X (.Name x pos) (TL X.K cl i pNil) :=
  (pe_var hN hv hd hcd).weak fun σ H Q ⟨Pn, G0, Fr, Γ, Ts, G, fs, r, d, v, ks, e, _, e2, hp, _, q⟩ => by
    cases hp
    exact ⟨v, e2, q v rfl⟩
def pSnoc (pp : PM (List D)) (q : PM D) : PM (List D) := fun Γ => match pp Γ, q Γ with
  | some ks, some k => some (ks ++ [k])
  | _, _ => none
theorem getAt_snoc : ∀ {ks : List D} {d k e : D}, getAt d (ks ++ [k]) = some e → ∃ c, getAt d ks = some c ∧ getAt c [k] = some e
  | [], d, k, e, h => ⟨d, rfl, h⟩
  | k' :: ks, d, k, e, h => by
    simp only [List.cons_append, getAt] at h
    split at h
    · cases h
    · rename_i j hj
      split at h
      · cases h
      · rename_i c hc
        obtain ⟨c2, h1, h2⟩ := getAt_snoc h
        exact ⟨c2, by simp only [getAt, hj, hc]; exact h1, h2⟩
theorem RchV.snoc {H : Hp} : ∀ {ks : List D} {v u x : V} {k : D}, RchV H v ks u → StpV H u k x → RchV H v (ks ++ [k]) x
  | [], _, _, _, _, h, s => by cases h; exact ⟨_, s, rfl⟩
  | _ :: _, _, _, _, _, ⟨y, s', h⟩, s => ⟨y, s', h.snoc s⟩
/-- a key's index: what the dict tells -/
theorem find_at {κ : Type} [DecidableEq κ] (enc : κ → D) (he : ∀ a b, sameK (enc a) (enc b) = decide (a = b)) (k : κ) : ∀ (kv : List (κ × V)) (j : Nat), findI (enc k) (kv.map fun p => enc p.1) = some j → ∃ x, kv[j]? = some (k, x) ∧ valV kv k = some x
  | [], j, h => by cases h
  | p :: kv, j, h => by
    simp only [List.map_cons, findI, he] at h
    by_cases e : p.1 = k
    · rw [if_pos (decide_eq_true e)] at h
      cases h
      subst e
      exact ⟨p.2, rfl, valV_pos rfl⟩
    · rw [if_neg (by simpa using e)] at h
      obtain ⟨j', h', rfl⟩ := Option.map_eq_some_iff.mp h
      obtain ⟨x, h1, h2⟩ := find_at enc he k kv j' h'
      exact ⟨x, by simpa using h1, by rw [valV_neg e]; exact h2⟩
theorem dic_at {K : PySem.W.Frag} {G H : Hp} (sb : Sub G H) {t : Bool} {ks : List D} {u : HO} {xs : List V} {a : Addr} {g : List Addr} {k : D} {y x : V} {j : Nat} (dk : DicOk t ks u xs) (rd : Rd H a u) (ok : keyOk t k = true) (oy : Own K cl G H k y g) (hj : findI k ks = some j) (hx : xs[j]? = some x) : DGet H a y (some x) := by
  cases t with
  | false =>
    obtain ⟨kv, rfl, rfl, rfl, _⟩ := dk
    have : ∃ κ : Key, k = kD κ := by
      cases k with
      | int i => exact ⟨.inl i, rfl⟩
      | str s => exact ⟨.inr s, rfl⟩
      | tup ds => simp [keyOk] at ok
      | _ => cases ok
    obtain ⟨κ, rfl⟩ := this
    obtain ⟨rfl, rfl⟩ := oy.key
    obtain ⟨w, h1, h2⟩ := find_at kD sameK_k κ kv j hj
    rw [List.getElem?_map, h1] at hx
    cases hx
    exact .inl ⟨kv, κ, rd, rfl, h2.symm⟩
  | true =>
    obtain ⟨kv, rfl, rfl, rfl, _⟩ := dk
    have : ∃ κ : List Key, k = .tup (κ.map kD) := by
      cases k with
      | int i => simp [keyOk] at ok
      | str s => simp [keyOk] at ok
      | tup ds =>
        simp only [keyOk, Bool.true_and] at ok
        obtain ⟨κ, e⟩ := Option.isSome_iff_exists.mp ok
        exact ⟨κ, by rw [keysD_some e]⟩
      | _ => cases ok
    obtain ⟨κ, rfl⟩ := this
    obtain ⟨b, zs, rfl, eb, oz⟩ := oy
    obtain ⟨rfl, rfl⟩ := oz.keys
    obtain ⟨w, h1, h2⟩ := find_at (fun κ : List Key => .tup (κ.map kD)) sameK_t κ kv j hj
    rw [List.getElem?_map, h1] at hx
    cases hx
    exact .inr ⟨kv, κ, b, rd, rfl, sb _ _ eb, h2.symm⟩
/-- a subscript by values: a list, a tuple, a dict -/
def rIxD : R2 := fun x y H Q => ∃ a w, x = .ref a ∧ DGet H a y (some w) ∧ Q w H
theorem ix_dict (hu : X.A.units + 1 < cLine) : IxR X rIxD := by
  intro va sl pins s σ H x y v u Q I rx ry ⟨a, w, ex, hg, q⟩ hs
  subst ex
  cases rx
  exact sub_tail (dict_typeIs I hg) PySem.F.slot_dict_getitem.lookup (d_getItem hu I hg ry fun w' s' I' rw' => ⟨w, H, I', rw', q⟩) hs
theorem getAt_one {d k e : D} (h : getAt d [k] = some e) : ∃ j, subIx d k = some j ∧ (kids d)[j]? = some e := by
  simp only [getAt] at h
  split at h
  · cases h
  · rename_i j hj
    split at h
    · cases h
    · rename_i c hc
      cases h
      exact ⟨j, hj, hc⟩
theorem tl_sub {i : Nat} {o ix : Expr} {pp : PM (List D)} {q : PM D} {pos : Pos} (hu : X.A.units + 1 < cLine) (ho : PE X o (TL X.K cl i pp)) (hi : PE X ix (TP X.K cl q)) (hs : PlainIx ix) : PE X (.Subscript o ix pos) (TL X.K cl i (pSnoc pp q)) := by
  refine (pe_ix (IxR.or (IxR.or ix_list ix_tup) (ix_dict hu)) ho hi hs).weak fun σ H Q ⟨Pn, G0, Fr, Γ, Ts, G, fs, r, d, v, ks, e, e1, e2, hp, hg, k⟩ => ?_
  unfold pSnoc at hp
  cases h1 : pp Γ with
  | none => rw [h1] at hp; cases hp
  | some ks0 =>
    cases h2 : q Γ with
    | none => rw [h1, h2] at hp; cases hp
    | some k0 =>
      rw [h1, h2] at hp
      cases hp
      obtain ⟨c, g1, g2⟩ := getAt_snoc hg
      refine ⟨Pn, G0, Fr, Γ, Ts, G, fs, r, d, v, ks0, c, e1, e2, h1, g1, fun x rx => ⟨Pn, G0, Fr, Γ, Ts, G, fs, r, k0, h2, fun y fy oy => ?_⟩⟩
      obtain ⟨v', f, e3, _, ov⟩ := r.sl.get e1
      rw [e2] at e3
      cases e3
      obtain ⟨u, fe, rest, ru, oe, _⟩ := ov.apart r.sub g1
      cases ru.det rx
      obtain ⟨j, hj, hc⟩ := getAt_one g2
      obtain ⟨a, w, xs, hd, f2, rfl, ew, _, ow, st, _⟩ := oe.node r.sub hj
      obtain ⟨z, fz, hz, _, _⟩ := ow.get hc
      have fin : Q z H := k z (rx.snoc (st z hz))
      cases c with
      | lst b ds =>
        cases b with
        | false => cases k0 <;> cases hj
        | true =>
          cases k0 with
          | int n =>
            obtain ⟨rfl, _⟩ := oy
            obtain ⟨a', xs', f3, ea, eh, _, _, ow'⟩ := oe
            cases ea
            rw [eh] at ew
            cases ew
            have at_ : L2.atI xs' n = some z := by
              obtain ⟨p, u', ep, eu, h⟩ := st z hz
              cases ep
              rw [eh] at eu
              cases eu
              rcases h with ⟨ys, i', e5, e6, h⟩ | ⟨ys, i', e5, _⟩ | ⟨t, kk, ys, jj, dk, _⟩
              · cases e5; cases e6; exact h
              · cases e5
              · cases t <;> obtain ⟨_, z, _⟩ := dk <;> cases z
            exact .inl (.inl ⟨a, xs', n, z, rfl, rfl, .inl (.inl eh), at_, fin⟩)
          | _ => cases hj
      | tup ds =>
        cases k0 with
        | int n =>
          obtain ⟨rfl, _⟩ := oy
          obtain ⟨a', xs', ea, eh, ow'⟩ := oe
          cases ea
          have eh' := r.sub _ _ eh
          have at_ : L2.atI xs' n = some z := by
            obtain ⟨p, u', ep, eu, h⟩ := st z hz
            cases ep
            rw [eh'] at eu
            cases eu
            rcases h with ⟨ys, i', e5, _⟩ | ⟨ys, i', e5, e6, h⟩ | ⟨t, kk, ys, jj, dk, _⟩
            · cases e5
            · cases e5; cases e6; exact h
            · exact absurd rfl (dk.ntup xs')
          exact .inl (.inr ⟨a, xs', n, z, rfl, rfl, .inl (.inl eh'), at_, fin⟩)
        | _ => cases hj
      | dic b t kk ds =>
        cases b with
        | false => cases k0 <;> cases hj
        | true =>
          simp only [subIx] at hj
          split at hj
          · rename_i ok
            obtain ⟨a', u', xs', f3, ea, eh, _, dk, _, ow'⟩ := oe
            cases ea
            have hz' : xs'[j]? = some z := by
              obtain ⟨p, u2, ep, eu, h⟩ := st z hz
              cases ep
              rw [eh] at eu
              cases eu
              rcases h with ⟨ys, i', e5, _⟩ | ⟨ys, i', e5, _⟩ | ⟨t2, kk2, ys, jj, dk2, _, hj2, h⟩
              · subst e5; cases t <;> obtain ⟨_, z, _⟩ := dk <;> cases z
              · subst e5; exact absurd rfl (dk.ntup ys)
              · obtain ⟨rfl, rfl⟩ := dk.inj dk2
                rw [hj] at hj2
                cases hj2
                exact h
            exact .inr ⟨a, z, rfl, dic_at r.sub dk (.inl eh) ok oy hj hz', fin⟩
          · cases hj
      | _ => cases k0 <;> cases hj
end
end PX

namespace PX
open PySem PySem.Spec PyProof.Rows L2

/-! ### what changes a place -/
/-- the kind of thing a method is looked up on: a list, a dict -/
def okT (b : Bool) : D → Bool
  | .lst true _ => !b
  | .dic true _ _ _ => b
  | _ => false
def tyB (b : Bool) : String := if b then "dict" else "list"
def mChk (b : Bool) (i : Nat) (ks : List D) : M Unit := fun Γ => match Γ[i]? with
  | some (some d) => match getAt d ks with
    | some e => if okT b e then some (.ok (), Γ) else none
    | none => none
  | _ => none
def mUpd (i : Nat) (ks : List D) (g : D → Option (D × D)) : M D := fun Γ => match Γ[i]? with
  | some (some d) => match getAt d ks with
    | some e => match g e with
      | some (e', res) => match setAt d ks e' with
        | some d' => some (.ok res, Γ.set i (some d'))
        | none => none
      | none => none
    | none => none
  | _ => none
def mMeth (b : Bool) (i : Nat) (pp : PM (List D)) (f : D → List D → Option (D × D)) (n : M (List D)) : M D := do
  let ks ← mP pp
  mChk b i ks
  let ds ← n
  mUpd i ks fun e => f e ds
theorem Sat.mChk {Ex : Nat → Env → Prop} {b : Bool} {i : Nat} {ks : List D} {Γ : Env} {k : Unit → Env → Prop} (h : Sat Ex (mChk b i ks) Γ k) : (∃ d e, Γ[i]? = some (some d) ∧ getAt d ks = some e ∧ okT b e = true) ∧ k () Γ := by
  unfold Sat PX.mChk at h
  cases e1 : Γ[i]? with
  | none => rw [e1] at h; exact h.elim
  | some γ =>
    rw [e1] at h
    cases γ with
    | none => exact h.elim
    | some d =>
      dsimp only at h
      cases e2 : getAt d ks with
      | none => rw [e2] at h; exact h.elim
      | some e =>
        rw [e2] at h
        dsimp only at h
        by_cases hk : okT b e = true
        · rw [if_pos hk] at h; exact ⟨⟨d, e, rfl, e2, hk⟩, h⟩
        · rw [if_neg hk] at h; exact h.elim
theorem Sat.mUpd {Ex : Nat → Env → Prop} {i : Nat} {ks : List D} {g : D → Option (D × D)} {Γ : Env} {k : D → Env → Prop} (h : Sat Ex (mUpd i ks g) Γ k) : ∃ d e e' res d', Γ[i]? = some (some d) ∧ getAt d ks = some e ∧ g e = some (e', res) ∧ setAt d ks e' = some d' ∧ k res (Γ.set i (some d')) := by
  unfold Sat PX.mUpd at h
  cases e1 : Γ[i]? with
  | none => rw [e1] at h; exact h.elim
  | some γ =>
    rw [e1] at h
    cases γ with
    | none => exact h.elim
    | some d =>
      dsimp only at h
      cases e2 : getAt d ks with
      | none => rw [e2] at h; exact h.elim
      | some e =>
        rw [e2] at h
        dsimp only at h
        cases e3 : g e with
        | none => rw [e3] at h; exact h.elim
        | some p =>
          obtain ⟨e', res⟩ := p
          rw [e3] at h
          dsimp only at h
          cases e4 : setAt d ks e' with
          | none => rw [e4] at h; exact h.elim
          | some d' => rw [e4] at h; exact ⟨d, e, e', res, d', rfl, e2, e3, e4, h⟩

section
variable {cl : Clss} {E : Wt} {X : Cx}
/-- a method that changes its receiver, by data -/
def MutR (K : PySem.W.Frag) (cl : Clss) (r : V → List V → Hp → VK → Prop) (f : D → List D → Option (D × D)) : Prop :=
  ∀ (G H : Hp) (e : D) (u : V) (ds : List D) (vs : List V) (e' res : D) (fe fa : List Addr) (Q : VK), Sub G H → (∀ q xs, H q = some (.tup xs) → G q = some (.tup xs)) → f e ds = some (e', res) → ds.length = vs.length → Own K cl G H e u fe → OwnT K cl G H (ds.zip vs) fa → (fe ++ fa).Nodup →
    (∀ (a : Addr) (o : HO) (w : V), u = .ref a → (∀ ys, o ≠ .tup ys) → a ∈ fe → (∃ fe' fr, Own K cl G (upd H a o) e' u fe' ∧ Own K cl G (upd H a o) res w fr ∧ (∀ b ∈ fe' ++ fr, b ∈ fe ++ fa) ∧ (fe' ++ fr).Nodup) → Q w (upd H a o)) → r u vs H Q
theorem Ge.tups {G G' H : Hp} (g : Ge G G') (sb : Sub G' H) : TupS G H := fun a xs e => sb _ _ (g.tp a xs e)
theorem upd_tups {G H : Hp} {a : Addr} {o : HO} (sb : Sub G H) (hn : G a = none) : TupS G (upd H a o) := fun b xs e => by
  rw [upd_ne fun z => by rw [z, hn] at e; cases e]
  exact sb _ _ e
/-- what is at a place is changed, what is at hand goes into it -/
theorem upd_place {K : PySem.W.Frag} {G H G0 Fr : Hp} {Pn : List (Nat × Option V)} {Γ : Env} {Ts : List (D × V)} {σ : L2.St} {fs : List (List Addr)} {ds : List D} {vs : List V} {i : Nat} {ks : List D} {d e e' res d' : D} {v u : V} {f : D → List D → Option (D × D)} {r : V → List V → Hp → VK → Prop} {Q : VK}
    (mr : MutR K cl r f) (R : Rel K cl G H Pn G0 Fr Γ (ds.zip vs ++ Ts) σ fs) (l : ds.length = vs.length) (hv : σ[i]? = some (some v)) (h1 : Γ[i]? = some (some d)) (h2 : getAt d ks = some e) (h3 : f e ds = some (e', res)) (h4 : setAt d ks e' = some d') (hu : RchV H v ks u)
    (q : ∀ w H' G' fs', Rel K cl G' H' Pn G0 Fr (Γ.set i (some d')) ((res, w) :: Ts) σ fs' → Keep [i] fs fs' H H' → Q w H') : r u vs H Q := by
  obtain ⟨v', e1, r1, k1⟩ := R.take h1
  rw [hv] at e1
  cases e1
  have r1' : Rel K cl G H Pn G0 Fr (Γ.set i none) (((d, v) :: ds.zip vs) ++ Ts) σ (fs.set i []) := r1
  obtain ⟨ff, ndf, ot, mt⟩ := r1'.mut'
  obtain ⟨fd, fa, rfl, od, oa⟩ := ot
  obtain ⟨u', fe, rest, ru, oe, pm, _, back⟩ := od.apart R.sub h2
  have eu := ru.det hu
  subst eu
  have nd2 : ((fe ++ rest) ++ fa).Nodup := (pm.append_right fa).nodup_iff.mp ndf
  rw [List.nodup_append] at nd2
  obtain ⟨n1, n2, n3⟩ := nd2
  rw [List.nodup_append] at n1
  obtain ⟨n4, n5, n6⟩ := n1
  refine mr G H e u' ds vs e' res fe fa Q R.sub R.tg h3 l oe oa (List.nodup_append.mpr ⟨n4, n2, fun a ma b mb => n3 a (List.mem_append_left _ ma) b mb⟩) fun a o w eu ho ha ⟨fe', fr, o1, o2, sb, nd⟩ => ?_
  have gn : G a = none := (oe.at a ha).2
  obtain ⟨d2, fp', es, o3, pm2⟩ := back (upd H a o) e' fe' o1 (fun b m => upd_ne fun z => n6 a ha b m z.symm) (upd_tups R.sub gn)
  rw [h4] at es
  cases es
  have inrest : ∀ b, b ∈ fe' ++ fr → b ∉ rest := fun b m z => by
    rcases List.mem_append.mp (sb b m) with m | m
    · exact n6 b m b z rfl
    · exact n3 b (List.mem_append_right _ z) b m rfl
  have hsub : ∀ b ∈ fp' ++ fr, b ∈ fd ++ fa := fun b m => by
    rcases List.mem_append.mp m with m | m
    · rcases List.mem_append.mp (pm2.mem_iff.mp m) with m | m
      · rcases List.mem_append.mp (sb b (List.mem_append_left _ m)) with m | m
        · exact List.mem_append_left _ (pm.mem_iff.mpr (List.mem_append_left _ m))
        · exact List.mem_append_right _ m
      · exact List.mem_append_left _ (pm.mem_iff.mpr (List.mem_append_right _ m))
    · rcases List.mem_append.mp (sb b (List.mem_append_right _ m)) with m | m
      · exact List.mem_append_left _ (pm.mem_iff.mpr (List.mem_append_left _ m))
      · exact List.mem_append_right _ m
  have hnd : (fp' ++ fr).Nodup := by
    rw [List.nodup_append] at nd
    refine List.nodup_append.mpr ⟨pm2.nodup_iff.mpr (List.nodup_append.mpr ⟨nd.1, n5, fun b mb c mc z => inrest b (List.mem_append_left _ mb) (z ▸ mc)⟩), nd.2.1, fun b mb c mc z => ?_⟩
    rcases List.mem_append.mp (pm2.mem_iff.mp mb) with m | m
    · exact nd.2.2 b m c mc z
    · exact inrest c (List.mem_append_right _ mc) (z ▸ m)
  obtain ⟨r2, k2⟩ := mt a o [(d', v), (res, w)] ho (List.mem_append_left _ (pm.mem_iff.mpr (List.mem_append_left _ ha))) ⟨fp' ++ fr, hsub, hnd, fp', fr, rfl, o3, fr, [], by simp, o2, rfl⟩
  obtain ⟨fs3, r3, k3⟩ := Rel.put (Ts := (res, w) :: Ts) r2 hv
  rw [List.set_set] at r3
  exact q w _ G fs3 r3 ((k1.trans (k2.mono fun j z => nomatch z)).trans k3)
theorem tyV_of {K : PySem.W.Frag} {G H : Hp} {b : Bool} {e : D} {u : V} {fe : List Addr} (o : Own K cl G H e u fe) (h : okT b e = true) : tyV K (tyB b) u H := by
  cases e with
  | lst t ds =>
    cases t with
    | false => cases h
    | true =>
      cases b with
      | true => cases h
      | false =>
        obtain ⟨a, xs, f, rfl, e, _⟩ := o
        exact .inl ⟨rfl, xs, .inl (.inl e)⟩
  | dic t tt ks ds =>
    cases t with
    | false => cases h
    | true =>
      cases b with
      | false => cases h
      | true =>
        obtain ⟨a, u, xs, f, rfl, e, _, dk, _⟩ := o
        refine .inr (.inr (.inl ⟨rfl, ?_⟩))
        cases tt with
        | false => obtain ⟨kv, rfl, _⟩ := dk; exact .inl ⟨kv, e⟩
        | true => obtain ⟨kv, rfl, _⟩ := dk; exact .inr ⟨kv, e⟩
  | _ => cases h
/-- the reading of a method on a place -/
theorem tmeth_of {K : PySem.W.Frag} {b : Bool} {i : Nat} {pp : PM (List D)} {f : D → List D → Option (D × D)} {n : M (List D)} {r : V → List V → Hp → VK → Prop} {W W' : List Nat} (mr : MutR K cl r f) (hiW : i ∉ W ∨ pp = pNil) (hWW : ∀ j ∈ W, j ∈ W') (hi : i ∈ W') {σ : L2.St} {H : Hp} {Q : VK} (h : TX K cl E W' (mMeth b i pp f n) σ H Q) :
    TL K cl i pp σ H fun x H1 => tyV K (tyB b) x H1 ∧ TAV K cl E W n σ H1 fun xs H2 => r x xs H2 Q := by
  obtain ⟨Pn, G0, Fr, Γ, Ts, G, fs, Ex, R, ex, q⟩ := h
  obtain ⟨ks, hp, q⟩ := Sat.mP.mp (Sat.bind.mp q)
  obtain ⟨⟨d, e, h1, h2, hk⟩, q⟩ := Sat.mChk (Sat.bind.mp q)
  obtain ⟨v, f0, hv, e3, od⟩ := R.sl.get h1
  refine ⟨Pn, G0, Fr, Γ, Ts, G, fs, R, d, v, ks, e, h1, hv, hp, h2, fun u hu => ?_⟩
  obtain ⟨u', fe, rest, ru, oe, _, keep, _⟩ := od.apart R.sub h2
  have eu := ru.det hu
  subst eu
  refine ⟨tyV_of oe hk, Pn, G, Fr, Γ, Ts, G, fs, Ex, R.base (Ge.refl _), ex.base R.ge, (Sat.bind.mp q).imp fun ds Γ1 k vs H1 G1 fs1 l R1 k1 => ?_⟩
  obtain ⟨d1, e1, e', res, d', g1, g2, g3, g4, k⟩ := Sat.mUpd k
  have hu' : RchV H1 v ks u' := by
    rcases hiW with hiW | hpp
    · exact keep H1 (fun a m => (k1.2 i hiW).2 f0 e3 a m) (R1.ge.tups R1.sub)
    · subst hpp
      cases hp
      exact hu
  exact upd_place mr (R1.base (R.ge.trans R1.ge)) l hv g1 g2 g3 g4 hu' fun w H2 G2 fs2 R2 k2 => k w H2 G2 fs2 R2 ((k1.mono hWW).trans (k2.mono fun j m => by rw [List.mem_singleton.mp m]; exact hi))
end
end PX

namespace PX
open PySem PySem.Spec PyProof.Rows L2
section
variable {K : PySem.W.Frag} {cl : Clss} {G H : Hp}
theorem Own.upd {d : D} {v : V} {f : List Addr} {a : Addr} {o : HO} (w : Own K cl G H d v f) (h : a ∉ f) : Own K cl G (upd H a o) d v f := w.mono (Ge.refl _) fun b m => ⟨upd_ne fun z => h (z ▸ m), (w.at b m).2⟩
theorem Owns.upd {ds : List D} {vs : List V} {f : List Addr} {a : Addr} {o : HO} (w : Owns K cl G H ds vs f) (h : a ∉ f) : Owns K cl G (upd H a o) ds vs f := w.mono (Ge.refl _) fun b m => ⟨upd_ne fun z => h (z ▸ m), (w.at b m).2⟩
theorem Owns.erase : ∀ {ds : List D} {xs : List V} {fp : List Addr} {k : Nat} {y : D}, Owns K cl G H ds xs fp → ds[k]? = some y → ∃ x fx rest, xs[k]? = some x ∧ Own K cl G H y x fx ∧ Owns K cl G H (ds.eraseIdx k) (xs.eraseIdx k) rest ∧ fp.Perm (fx ++ rest)
  | [], _, _, _, _, _, e => by simp at e
  | d :: ds, _, _, 0, y, h, e => by
    obtain ⟨x, r, f1, f2, rfl, rfl, h1, h2⟩ := h
    cases e
    exact ⟨x, f1, f2, rfl, h1, h2, .refl _⟩
  | d :: ds, _, _, k + 1, y, h, e => by
    obtain ⟨x, r, f1, f2, rfl, rfl, h1, h2⟩ := h
    obtain ⟨z, fx, rest, e1, o, ow, p⟩ := Owns.erase (k := k) h2 (by simpa using e)
    refine ⟨z, fx, f1 ++ rest, by simpa using e1, o, ⟨x, r.eraseIdx k, f1, rest, rfl, rfl, h1, ow⟩, (p.append_left f1).trans ?_⟩
    rw [← List.append_assoc, ← List.append_assoc]
    exact List.perm_append_comm.append_right _
theorem Owns.rev : ∀ {ds : List D} {xs : List V} {fp : List Addr}, Owns K cl G H ds xs fp → ∃ f, Owns K cl G H ds.reverse xs.reverse f ∧ f.Perm fp
  | [], _, _, h => by obtain ⟨rfl, rfl⟩ := h; exact ⟨[], ⟨rfl, rfl⟩, .refl _⟩
  | d :: ds, _, _, h => by
    obtain ⟨x, r, f1, f2, rfl, rfl, h1, h2⟩ := h
    obtain ⟨f, ow, p⟩ := Owns.rev h2
    refine ⟨f ++ f1, ?_, (p.append_right f1).trans List.perm_append_comm⟩
    rw [List.reverse_cons, List.reverse_cons]
    exact ow.append ⟨x, [], f1, [], rfl, by simp, h1, rfl, rfl⟩

/-! ### lists -/
def appendD (e : D) (ds : List D) : Option (D × D) := match e, ds with
  | .lst true es, [d] => if es.length < sizeLine then some (.lst true (es ++ [d]), .non) else none
  | _, _ => none
theorem mut_append : MutR K cl rAppend appendD := by
  intro G H e u ds vs e' res fe fa Q sb tg hf l oe oa nd k
  unfold appendD at hf
  split at hf
  · rename_i es d
    split at hf
    · rename_i hz
      cases hf
      obtain ⟨a, xs, f, rfl, eh, gn, rfl, ow⟩ := oe
      match vs, l, oa with
      | [v], _, oa =>
        obtain ⟨f1, f2, rfl, o1, z⟩ := oa
        rw [show f2 = [] from z, List.append_nil] at nd k
        have nd' := List.nodup_append.mp nd
        have n1 := List.nodup_cons.mp nd'.1
        have n2 : a ∉ f1 := fun m => nd'.2.2 a (.head _) a m rfl
        refine ⟨a, xs, v, rfl, rfl, eh, by rw [← ow.length]; exact hz, k a _ .non rfl (fun _ z => nomatch z) (.head _) ⟨a :: (f ++ f1), [], ⟨a, xs ++ [v], f ++ f1, rfl, upd_same, gn, rfl, (ow.upd n1.1).append ⟨v, [], f1, [], rfl, by simp, o1.upd n2, rfl, rfl⟩⟩, ⟨rfl, rfl⟩, fun b m => by simpa using m, by simpa using nd⟩⟩
    · cases hf
  · cases hf
def popAtD (k : Nat) (es : List D) : Option (D × D) := match es[k]? with
  | some y => some (.lst true (es.eraseIdx k), y)
  | none => none
def popD (e : D) (ds : List D) : Option (D × D) := match e, ds with
  | .lst true es, [] => popAtD (es.length - 1) es
  | .lst true es, [.int i] => match L2.ixN es.length i with
    | some k => if big i then popAtD k es else none
    | none => none
  | _, _ => none
theorem own_pop {es : List D} {xs : List V} {a : Addr} {f : List Addr} {k : Nat} {e' res : D} (ow : Owns K cl G H es xs f) (eh : H a = some (.lst xs)) (gn : G a = none) (nd : (a :: f).Nodup) (h : popAtD k es = some (e', res)) :
    ∃ x, xs[k]? = some x ∧ ∃ fe' fr, Own K cl G (L2.upd H a (.lst (xs.eraseIdx k))) e' (.ref a) fe' ∧ Own K cl G (L2.upd H a (.lst (xs.eraseIdx k))) res x fr ∧ (∀ b ∈ fe' ++ fr, b ∈ a :: f) ∧ (fe' ++ fr).Nodup := by
  unfold popAtD at h
  split at h
  · rename_i y hy
    cases h
    obtain ⟨x, fx, rest, e1, o, ow', p⟩ := ow.erase hy
    have n1 := List.nodup_cons.mp nd
    have nx : a ∉ fx := fun m => n1.1 (p.mem_iff.mpr (List.mem_append_left _ m))
    have nr : a ∉ rest := fun m => n1.1 (p.mem_iff.mpr (List.mem_append_right _ m))
    have np := p.nodup_iff.mp n1.2
    refine ⟨x, e1, a :: rest, fx, ⟨a, _, rest, rfl, upd_same, gn, rfl, ow'.upd nr⟩, o.upd nx, fun b m => ?_, ?_⟩
    · rcases List.mem_append.mp m with m | m
      · rcases List.mem_cons.mp m with rfl | m
        · exact .head _
        · exact .tail _ (p.mem_iff.mpr (List.mem_append_right _ m))
      · exact .tail _ (p.mem_iff.mpr (List.mem_append_left _ m))
    · rw [List.nodup_append] at np
      refine List.nodup_append.mpr ⟨List.nodup_cons.mpr ⟨nr, np.2.1⟩, np.1, fun b mb c mc z => ?_⟩
      rcases List.mem_cons.mp mb with rfl | mb
      · exact nx (z ▸ mc)
      · exact np.2.2 c mc b mb z.symm
  · cases h
def rPopB : V → List V → Hp → VK → Prop := fun x vs H Q => rPop x vs H Q ∨ rPopAt x vs H Q
theorem mt_popB {X : Cx} : MtR X "list.pop" rPopB := MtR.or mt_pop mt_popAt
theorem mut_pop : MutR K cl rPopB popD := by
  intro G H e u ds vs e' res fe fa Q sb tg hf l oe oa nd k
  unfold popD at hf
  split at hf
  · rename_i es
    obtain ⟨a, xs, f, rfl, eh, gn, rfl, ow⟩ := oe
    match vs, l with
    | [], _ =>
      have nd1 := (List.nodup_append.mp nd).1
      obtain ⟨x, hx, fe', fr, o1, o2, sub, nd'⟩ := own_pop ow eh gn nd1 hf
      rw [ow.length] at hx o1 o2
      refine .inl ⟨a, xs, x, rfl, rfl, eh, hx, ?_⟩
      have hd : xs.dropLast = xs.eraseIdx (xs.length - 1) := by rw [List.eraseIdx_length_sub_one]
      rw [hd]
      exact k a _ x rfl (fun _ z => nomatch z) (.head _) ⟨fe', fr, o1, o2, fun b m => List.mem_append_left _ (sub b m), nd'⟩
  · rename_i es i
    split at hf
    · rename_i kk hk
      split at hf
      · rename_i hb
        obtain ⟨a, xs, f, rfl, eh, gn, rfl, ow⟩ := oe
        match vs, l, oa with
        | [v], _, oa =>
          obtain ⟨f1, f2, rfl, ⟨rfl, rfl⟩, z⟩ := oa
          have nd1 := (List.nodup_append.mp nd).1
          obtain ⟨x, hx, fe', fr, o1, o2, sub, nd'⟩ := own_pop ow eh gn nd1 hf
          obtain ⟨b1, b2⟩ := big_of hb
          rw [ow.length] at hk
          refine .inr ⟨a, xs, i, kk, x, rfl, rfl, eh, by omega, by omega, (ixN_seq hk).1, hx, ?_⟩
          exact k a _ x rfl (fun _ z => nomatch z) (.head _) ⟨fe', fr, o1, o2, fun b m => List.mem_append_left _ (sub b m), nd'⟩
      · cases hf
    · cases hf
  · cases hf
def reverseD (e : D) (ds : List D) : Option (D × D) := match e, ds with
  | .lst true es, [] => some (.lst true es.reverse, .non)
  | _, _ => none
theorem mut_reverse : MutR K cl rReverse reverseD := by
  intro G H e u ds vs e' res fe fa Q sb tg hf l oe oa nd k
  unfold reverseD at hf
  split at hf
  · rename_i es
    cases hf
    obtain ⟨a, xs, f, rfl, eh, gn, rfl, ow⟩ := oe
    match vs, l with
    | [], _ =>
      have nd1 := List.nodup_cons.mp (List.nodup_append.mp nd).1
      obtain ⟨f', ow', p⟩ := ow.rev
      have n2 : a ∉ f' := fun m => nd1.1 (p.mem_iff.mp m)
      exact ⟨a, xs, rfl, rfl, eh, k a _ .non rfl (fun _ z => nomatch z) (.head _) ⟨a :: f', [], ⟨a, _, f', rfl, upd_same, gn, rfl, ow'.upd n2⟩, ⟨rfl, rfl⟩, fun b m => by
        rw [List.append_nil] at m
        rcases List.mem_cons.mp m with rfl | m
        · exact List.mem_append_left _ (.head _)
        · exact List.mem_append_left _ (.tail _ (p.mem_iff.mp m)), by rw [List.append_nil]; exact List.nodup_cons.mpr ⟨n2, p.nodup_iff.mpr nd1.2⟩⟩⟩
  · cases hf
def clearD (e : D) (ds : List D) : Option (D × D) := match e, ds with
  | .lst true es, [] => some (.lst true [], .non)
  | _, _ => none
theorem mut_clear : MutR K cl rClear clearD := by
  intro G H e u ds vs e' res fe fa Q sb tg hf l oe oa nd k
  unfold clearD at hf
  split at hf
  · rename_i es
    cases hf
    obtain ⟨a, xs, f, rfl, eh, gn, rfl, ow⟩ := oe
    match vs, l with
    | [], _ => exact ⟨a, xs, rfl, rfl, eh, k a _ .non rfl (fun _ z => nomatch z) (.head _) ⟨[a], [], ⟨a, [], [], rfl, upd_same, gn, rfl, rfl, rfl⟩, ⟨rfl, rfl⟩, fun b m => by simp only [List.append_nil, List.mem_singleton] at m; rw [m]; exact List.mem_append_left _ (.head _), by simp⟩⟩
  · cases hf
def insertD (e : D) (ds : List D) : Option (D × D) := match e, ds with
  | .lst true es, [.int i, d] => if es.length < sizeLine ∧ 0 ≤ i ∧ big i = true then some (.lst true (es.take i.toNat ++ [d] ++ es.drop i.toNat), .non) else none
  | _, _ => none
abbrev rInsB : V → List V → Hp → VK → Prop := fun x vs H Q => ∃ (l : Addr) (xs : List V) (i : Int) (y : V), x = .ref l ∧ vs = [.int i, y] ∧ H l = some (.lst xs) ∧ xs.length < sizeLine ∧ 0 ≤ i ∧ i < 2 ^ 63 ∧
    Q .non (L2.upd H l (.lst (xs.take i.toNat ++ [y] ++ xs.drop i.toNat)))
theorem Owns.cut {ds : List D} {xs : List V} {fp : List Addr} (o : Owns K cl G H ds xs fp) (n : Nat) : ∃ f g, fp = f ++ g ∧ Owns K cl G H (ds.take n) (xs.take n) f ∧ Owns K cl G H (ds.drop n) (xs.drop n) g := by
  have h : Owns K cl G H (ds.take n ++ ds.drop n) xs fp := by rw [List.take_append_drop]; exact o
  obtain ⟨ys, zs, f, g, e, rfl, o1, o2⟩ := h.split
  have l1 : ys.length = min n xs.length := by rw [← o1.length, List.length_take, o.length]
  refine ⟨f, g, rfl, ?_, ?_⟩
  · have : xs.take n = ys := by
      rw [e, List.take_append]
      by_cases hn : n ≤ xs.length
      · rw [show ys.length = n by omega, Nat.sub_self, List.take_zero, List.append_nil, List.take_of_length_le (by omega)]
      · have hz : zs = [] := by
          have : xs.length = ys.length + zs.length := by rw [e, List.length_append]
          exact List.eq_nil_of_length_eq_zero (by omega)
        rw [hz, List.take_nil, List.append_nil, List.take_of_length_le (by omega)]
    rw [this]; exact o1
  · have : xs.drop n = zs := by
      rw [e, List.drop_append]
      by_cases hn : n ≤ xs.length
      · rw [show ys.length = n by omega, Nat.sub_self, List.drop_zero, List.drop_of_length_le (by omega), List.nil_append]
      · have hz : zs = [] := by
          have : xs.length = ys.length + zs.length := by rw [e, List.length_append]
          exact List.eq_nil_of_length_eq_zero (by omega)
        rw [hz, List.drop_nil, List.append_nil, List.drop_of_length_le (by omega)]
    rw [this]; exact o2
theorem mut_insert : MutR K cl rInsB insertD := by
  intro G H e u ds vs e' res fe fa Q sb tg hf l oe oa nd k
  unfold insertD at hf
  split at hf
  · rename_i es i d
    split at hf
    · rename_i hz
      cases hf
      obtain ⟨a, xs, f, rfl, eh, gn, rfl, ow⟩ := oe
      match vs, l, oa with
      | [v, y], _, oa =>
        obtain ⟨f0, f1', rfl, ⟨rfl, rfl⟩, f1, f2, rfl, o1, z⟩ := oa
        rw [show f2 = [] from z, List.append_nil, List.nil_append] at nd k
        have nd' := List.nodup_append.mp nd
        have n1 := List.nodup_cons.mp nd'.1
        have n2 : a ∉ f1 := fun m => nd'.2.2 a (.head _) a m rfl
        obtain ⟨g1, g2, rfl, w1, w2⟩ := ow.cut i.toNat
        have n3 : a ∉ g1 := fun m => n1.1 (List.mem_append_left _ m)
        have n4 : a ∉ g2 := fun m => n1.1 (List.mem_append_right _ m)
        obtain ⟨b1, b2⟩ := big_of hz.2.2
        have pm : (a :: (g1 ++ f1 ++ g2)).Perm (a :: (g1 ++ g2) ++ f1) := by
          rw [List.cons_append]
          refine List.Perm.cons a ?_
          rw [List.append_assoc, List.append_assoc]
          exact List.perm_append_comm.append_left g1
        refine ⟨a, xs, i, y, rfl, rfl, eh, by rw [← ow.length]; exact hz.1, hz.2.1, by omega, k a (.lst (xs.take i.toNat ++ [y] ++ xs.drop i.toNat)) .non rfl (fun _ z => nomatch z) (.head _) ⟨a :: (g1 ++ f1 ++ g2), [], ⟨a, _, g1 ++ f1 ++ g2, rfl, upd_same, gn, rfl, ((w1.upd n3).append (show Owns K cl G (L2.upd H a _) [d] [y] f1 from ⟨y, [], f1, [], rfl, by simp, o1.upd n2, rfl, rfl⟩)).append (w2.upd n4)⟩, ⟨rfl, rfl⟩, fun b m => by rw [List.append_nil] at m; exact pm.mem_iff.mp m, by rw [List.append_nil]; exact pm.nodup_iff.mpr nd⟩⟩
    · cases hf
  · cases hf
end
/-! extend: by a list, a tuple -/
section
variable {X : Cx} {cl : Clss}
def rExtS (K : PySem.W.Frag) : V → List V → Hp → VK → Prop := fun x vs H Q => ∃ l b xs zs, x = .ref l ∧ vs = [.ref b] ∧ H l = some (.lst xs) ∧ (SqL K H b zs ∨ SqT K H b zs) ∧ xs.length + zs.length ≤ sizeLine ∧ Q .non (L2.upd H l (.lst (xs ++ zs)))
theorem ext_go {A : Around} {s : Shared} {prog : Program} {w : World} {S it : Addr} {T : String} {o : Obj} {mine items : Array Value} {n c0 : Nat} {P : PySem.Fin → Shared → Prop} {E : Value → Shared → Prop} (hT : T = "list" ∨ T = "tuple")
    (hS : s.heap.get? S = some { cls := .type "list", data := .seq mine c0 }) (ho : s.heap.get? it = some o) (hc : o.cls = .type T) (hd : o.data = .seq items n) (hz : mine.size + items.size ≤ sizeLine)
    (hP : P (.done (.ret .none)) { s with heap := s.heap.update S (Obj.mapSeq (· ++ items)) }) : wpAny (model prog w) A (Builtin.«list.extend» ⟨[.ref S, .ref it], []⟩) P E s := by
  show wpAny (model prog w) A (Builtin.List.listExtendWith (.ref S) (.ref it) .none) P E s
  unfold Builtin.List.listExtendWith
  refine wpAny_bind (wpAny_typeOf ⟨o, ho, hc⟩ ?_)
  have h1 : (Builtin.List.listSameRef (.ref S) (.ref it) || Value.type T == Value.type "list" || Value.type T == Value.type "tuple") = true := by
    rcases hT with rfl | rfl <;> simp
  simp only [h1, if_true]
  refine wpAny_bind ?_
  unfold Builtin.List.listItems
  refine wpAny_bind (wpAny_seqItems ho hd (wpAny_pure ?_))
  refine wpAny_bind ?_
  refine wpAny_bind (wpAny_seqItems hS rfl (wpAny_pure ?_))
  have hl : (!mine.isEmpty && Builtin.List.listTooLong (mine.size + items.size)) = false := by rw [notLongL hz, Bool.and_false]
  simp only [hl]
  refine wpAny_bind ?_
  first
    | (refine wpAny_pure ?_
       refine wpAny_bind ?_
       unfold Builtin.List.listUpdate
       refine wpAny_updateSeq hS rfl ?_
       exact wpAny_pure hP)
    | (unfold Builtin.List.listUpdate
       refine wpAny_updateSeq hS rfl ?_
       exact wpAny_pure hP)
end
end PX

namespace PX
open PySem PySem.Spec PyProof.Rows L2
section
variable {X : Cx} {cl : Clss} {E : Wt}
theorem mt_extendS : MtR X "list.extend" (rExtS X.K) := by
  intro pins s σ H x vs v us Q I rx rv h
  obtain ⟨l, b, xs, zs, rfl, rfl, hH, hB, hz, q⟩ := h
  cases rx
  obtain ⟨u, rfl, ru⟩ := rv.one
  cases ru
  obtain ⟨z, its, n, r, hl, e⟩ := I.lstM hH
  have go : ∀ (T : String) (o : Obj) (its2 : List Value) (n2 : Nat), (T = "list" ∨ T = "tuple") → Vals zs its2 → s.heap.get? b = some o → o.cls = .type T → o.data = .seq its2.toArray n2 → wpAny (model X.prog X.w) X.A (call (.builtin "list.extend") [.ref l, .ref b]) (EP X pins σ Q) X.xe s := fun T o its2 n2 hT r2 ho hc hd => by
    have hl2 := r2.length
    refine wpAny_call_entry PySem.F.slot_list_extend ⟨_, e, rfl⟩ PySem.F.entry_list_extend (ext_go hT e ho hc hd (by rw [List.size_toArray, List.size_toArray]; omega) ⟨_, rfl, .non, _, I.lset (its' := its ++ its2) hH e (by simp) (r.append r2) (by rw [List.length_append]; omega), rfl, q⟩) (PySem.F.args_list_extend_2 _ _)
  rcases hB with hB | hB
  · obtain ⟨its2, r2, ⟨o, n2, ho, hc, _, hd⟩, _⟩ := I.list hB
    exact go "list" o its2 n2 (.inl rfl) r2 ho hc hd
  · obtain ⟨its2, r2, ⟨o, ho, hc, n2, hd⟩, _⟩ := I.tuple hB
    exact go "tuple" o its2 n2 (.inr rfl) r2 ho hc hd
end
section
variable {K : PySem.W.Frag} {cl : Clss} {G H : Hp}
theorem Own.seq2 (sb : Sub G H) {d : D} {ds : List D} {v : V} {f : List Addr} (hd : seqD d = some ds) (h : Own K cl G H d v f) : ∃ a xs g, v = .ref a ∧ (SqL K H a xs ∨ SqT K H a xs) ∧ Owns K cl G H ds xs g ∧ g.Sublist f := by
  cases d with
  | lst o es =>
    cases hd
    cases o with
    | true =>
      obtain ⟨a, xs, g, rfl, e, _, rfl, ow⟩ := h
      exact ⟨a, xs, g, rfl, .inl (.inl (.inl e)), ow, List.sublist_cons_self a g⟩
    | false =>
      obtain ⟨a, xs, rfl, e, ow⟩ := h
      exact ⟨a, xs, f, rfl, .inl (.inl (.inl (sb _ _ e))), ow, .refl f⟩
  | tup es =>
    cases hd
    obtain ⟨a, xs, rfl, e, ow⟩ := h
    exact ⟨a, xs, f, rfl, .inr (.inl (.inl (sb _ _ e))), ow, .refl f⟩
  | ktp es =>
    cases hd
    obtain ⟨a, xs, rfl, e, ow⟩ := h
    exact ⟨a, xs, f, rfl, .inr (sb.seqT e), ow, .refl f⟩
  | klst es =>
    cases hd
    obtain ⟨a, xs, rfl, e, ow⟩ := h
    exact ⟨a, xs, f, rfl, .inl (sb.seqL e), ow, .refl f⟩
  | _ => cases hd
def extendD (e : D) (ds : List D) : Option (D × D) := match e, ds with
  | .lst true es, [d] => match seqD d with
    | some zs => if es.length + zs.length ≤ sizeLine then some (.lst true (es ++ zs), .non) else none
    | none => none
  | _, _ => none
theorem mut_extend : MutR K cl (rExtS K) extendD := by
  intro G H e u ds vs e' res fe fa Q sb tg hf l oe oa nd k
  unfold extendD at hf
  split at hf
  · rename_i es d
    split at hf
    · rename_i zs hzs
      split at hf
      · rename_i hz
        cases hf
        obtain ⟨a, xs, f, rfl, eh, gn, rfl, ow⟩ := oe
        match vs, l, oa with
        | [v], _, oa =>
          obtain ⟨f1, f2, rfl, o1, z⟩ := oa
          rw [show f2 = [] from z, List.append_nil] at nd k
          have nd' := List.nodup_append.mp nd
          have n1 := List.nodup_cons.mp nd'.1
          obtain ⟨b, ys, g, rfl, sq, ow2, sub⟩ := o1.seq2 sb hzs
          have n2 : a ∉ g := fun m => nd'.2.2 a (.head _) a (sub.subset m) rfl
          refine ⟨a, b, xs, ys, rfl, rfl, eh, sq, by rw [← ow.length, ← ow2.length]; exact hz, k a _ .non rfl (fun _ z => nomatch z) (.head _) ⟨a :: (f ++ g), [], ⟨a, xs ++ ys, f ++ g, rfl, upd_same, gn, rfl, (ow.upd n1.1).append (ow2.upd n2)⟩, ⟨rfl, rfl⟩, fun c m => ?_, ?_⟩⟩
          · rw [List.append_nil] at m
            rcases List.mem_cons.mp m with rfl | m
            · exact .head _
            · rcases List.mem_append.mp m with m | m
              · exact .tail _ (List.mem_append_left _ m)
              · exact .tail _ (List.mem_append_right _ (sub.subset m))
          · rw [List.append_nil]
            exact nd.sublist ((sub.append_left f).cons_cons a)
      · cases hf
    · cases hf
  · cases hf

/-! ### a[k] = d -/
def storeD (e : D) (ds : List D) : Option (D × D) := match e, ds with
  | .lst true es, [.int i, d] => match L2.ixN es.length i with
    | some j => some (.lst true (es.set j d), .non)
    | none => none
  | .dic true t ks es, [k, d] => if keyOk t k = true ∧ ks.length < sizeLine then (match findI k ks with
    | some j => some (.dic true t ks (es.set j d), .non)
    | none => some (.dic true t (ks ++ [k]) (es ++ [d]), .non)) else none
  | _, _ => none
def rSetB : TSet := fun o i v H Q => rSetL o i v H Q ∨ rSetD o i v H Q
theorem set_both {X : Cx} (hu : X.A.units + 1 < cLine) : PSet X rSetB := by
  intro pins s σ H o i v ov iv u Q I ro ri rv h
  rcases h with h | h
  · exact set_list pins s σ H o i v ov iv u Q I ro ri rv h
  · exact set_dict hu pins s σ H o i v ov iv u Q I ro ri rv h
/-- the store as a method -/
def rStore : V → List V → Hp → VK → Prop := fun x vs H Q => ∃ y v, vs = [y, v] ∧ rSetB x y v H (Q .non)
theorem find_none {κ : Type} [DecidableEq κ] (enc : κ → D) (he : ∀ a b, sameK (enc a) (enc b) = decide (a = b)) (k : κ) : ∀ (kv : List (κ × V)), findI (enc k) (kv.map fun p => enc p.1) = none → k ∉ kv.map (·.1)
  | [], _ => by simp
  | p :: kv, h => by
    simp only [List.map_cons, findI, he] at h
    by_cases e : p.1 = k
    · rw [if_pos (decide_eq_true e)] at h; cases h
    · rw [if_neg (by simpa using e)] at h
      have := find_none enc he k kv (by simpa using h)
      simp only [List.map_cons, List.mem_cons, not_or]
      exact ⟨fun z => e z.symm, this⟩
theorem putK_at {κ : Type} [DecidableEq κ] (enc : κ → D) (he : ∀ a b, sameK (enc a) (enc b) = decide (a = b)) (k : κ) (v : V) : ∀ (kv : List (κ × V)) (j : Nat), (kv.map (·.1)).Nodup → findI (enc k) (kv.map fun p => enc p.1) = some j → putK kv k v = kv.set j (k, v)
  | [], j, _, h => by cases h
  | p :: kv, j, nd, h => by
    simp only [List.map_cons, findI, he] at h
    rw [List.map_cons, List.nodup_cons] at nd
    by_cases e : p.1 = k
    · rw [if_pos (decide_eq_true e)] at h
      cases h
      unfold putK
      rw [if_pos (by simp [e]), List.map_cons, if_pos e, List.set_cons_zero, e]
      congr 1
      apply List.ext_getElem?
      intro n
      rw [List.getElem?_map]
      cases hq : kv[n]? with
      | none => rfl
      | some q =>
        have : q.1 ≠ k := fun z => nd.1 (by rw [e, ← z]; exact List.mem_map.mpr ⟨q, List.mem_of_getElem? hq, rfl⟩)
        simp [this]
    · rw [if_neg (by simpa using e)] at h
      obtain ⟨j', h', rfl⟩ := Option.map_eq_some_iff.mp h
      have ih := putK_at enc he k v kv j' nd.2 h'
      obtain ⟨x, h1, h2⟩ := find_at enc he k kv j' h'
      have hany : (kv.any fun kv => decide (kv.1 = k)) = true := by
        rw [valV_any, h2]; rfl
      unfold putK at ih ⊢
      rw [if_pos hany] at ih
      rw [if_pos (by simp [hany]), List.map_cons, if_neg e, List.set_cons_succ, ih]
theorem putK_none {κ : Type} [DecidableEq κ] {k : κ} {v : V} {kv : List (κ × V)} (h : k ∉ kv.map (·.1)) : putK kv k v = kv ++ [(k, v)] := by
  unfold putK
  rw [if_neg]
  intro z
  obtain ⟨p, m, e⟩ := List.any_eq_true.mp z
  exact h (List.mem_map.mpr ⟨p, m, of_decide_eq_true e⟩)
theorem put_some {κ : Type} [DecidableEq κ] {enc : κ → D} (he : ∀ a b, sameK (enc a) (enc b) = decide (a = b)) {k : κ} {v : V} {kv : List (κ × V)} {j : Nat} (nd : (kv.map (·.1)).Nodup) (h : findI (enc k) (kv.map fun p => enc p.1) = some j) :
    (putK kv k v).map (fun p => enc p.1) = kv.map (fun p => enc p.1) ∧ (putK kv k v).map (·.2) = (kv.map (·.2)).set j v ∧ ((putK kv k v).map (·.1)).Nodup := by
  obtain ⟨x, h1, _⟩ := find_at enc he k kv j h
  rw [putK_at enc he k v kv j nd h]
  have e1 : (kv.set j (k, v)).map (fun p => enc p.1) = kv.map (fun p => enc p.1) := by
    rw [List.map_set]
    exact set_same (by rw [List.getElem?_map, h1]; rfl)
  have e2 : (kv.set j (k, v)).map (·.1) = kv.map (·.1) := by
    rw [List.map_set]
    exact set_same (by rw [List.getElem?_map, h1]; rfl)
  exact ⟨e1, by rw [List.map_set], by rw [e2]; exact nd⟩
theorem put_none {κ : Type} [DecidableEq κ] {enc : κ → D} (he : ∀ a b, sameK (enc a) (enc b) = decide (a = b)) {k : κ} {v : V} {kv : List (κ × V)} (nd : (kv.map (·.1)).Nodup) (h : findI (enc k) (kv.map fun p => enc p.1) = none) :
    (putK kv k v).map (fun p => enc p.1) = kv.map (fun p => enc p.1) ++ [enc k] ∧ (putK kv k v).map (·.2) = kv.map (·.2) ++ [v] ∧ ((putK kv k v).map (·.1)).Nodup := by
  have hn := find_none enc he k kv h
  rw [putK_none hn]
  refine ⟨by simp, by simp, ?_⟩
  rw [List.map_append, List.map_cons, List.map_nil]
  exact List.nodup_append.mpr ⟨nd, by simp, fun a ma b mb z => hn (by rw [List.mem_singleton.mp mb] at z; rw [← show a = k from z]; exact ma)⟩
/-- a dict's object behind a store -/
theorem dic_put (sb : Sub G H) {t : Bool} {ks : List D} {u : HO} {xs : List V} {a : Addr} {g : List Addr} {k : D} {y v : V} (dk : DicOk t ks u xs) (eh : H a = some u) (ok : keyOk t k = true) (oy : Own K cl G H k y g) (hz : ks.length < sizeLine) :
    ∃ u', DPut H a y v (L2.upd H a u') ∧ (∀ ys, u' ≠ .tup ys) ∧ (match findI k ks with
      | some j => DicOk t ks u' (xs.set j v)
      | none => DicOk t (ks ++ [k]) u' (xs ++ [v])) := by
  cases t with
  | false =>
    obtain ⟨kv, rfl, rfl, rfl, nd⟩ := dk
    have : ∃ κ : Key, k = kD κ := by
      cases k with
      | int i => exact ⟨.inl i, rfl⟩
      | str s => exact ⟨.inr s, rfl⟩
      | tup ds => simp [keyOk] at ok
      | _ => cases ok
    obtain ⟨κ, rfl⟩ := this
    obtain ⟨rfl, rfl⟩ := oy.key
    rw [List.length_map] at hz
    refine ⟨.dK (putK kv κ v), .inl ⟨kv, κ, eh, rfl, hz, rfl⟩, (fun _ z => nomatch z), ?_⟩
    cases hj : findI (kD κ) (kv.map fun p => kD p.1) with
    | some j =>
      obtain ⟨e1, e2, e3⟩ := put_some (v := v) sameK_k nd hj
      exact ⟨_, rfl, e1.symm, e2.symm, e3⟩
    | none =>
      obtain ⟨e1, e2, e3⟩ := put_none (v := v) sameK_k nd hj
      exact ⟨_, rfl, e1.symm, e2.symm, e3⟩
  | true =>
    obtain ⟨kv, rfl, rfl, rfl, nd⟩ := dk
    have : ∃ κ : List Key, k = .tup (κ.map kD) := by
      cases k with
      | int i => simp [keyOk] at ok
      | str s => simp [keyOk] at ok
      | tup ds =>
        simp only [keyOk, Bool.true_and] at ok
        obtain ⟨κ, e⟩ := Option.isSome_iff_exists.mp ok
        exact ⟨κ, by rw [keysD_some e]⟩
      | _ => cases ok
    obtain ⟨κ, rfl⟩ := this
    obtain ⟨b, zs, rfl, eb, oz⟩ := oy
    obtain ⟨rfl, rfl⟩ := oz.keys
    rw [List.length_map] at hz
    refine ⟨.dT (putK kv κ v), .inr ⟨kv, κ, b, eh, rfl, sb _ _ eb, hz, rfl⟩, (fun _ z => nomatch z), ?_⟩
    cases hj : findI (.tup (κ.map kD)) (kv.map fun p => .tup (p.1.map kD)) with
    | some j =>
      obtain ⟨e1, e2, e3⟩ := put_some (enc := fun κ : List Key => .tup (κ.map kD)) (v := v) sameK_t nd hj
      exact ⟨_, rfl, e1.symm, e2.symm, e3⟩
    | none =>
      obtain ⟨e1, e2, e3⟩ := put_none (enc := fun κ : List Key => .tup (κ.map kD)) (v := v) sameK_t nd hj
      exact ⟨_, rfl, e1.symm, e2.symm, e3⟩
theorem keyOk_clean {t : Bool} {k : D} (h : keyOk t k = true) : cln k = true := by
  cases k with
  | tup ds =>
    simp only [keyOk, Bool.and_eq_true] at h
    obtain ⟨ks, e⟩ := Option.isSome_iff_exists.mp h.2
    rw [keysD_some e]
    simp only [cln]
    clear e h
    induction ks with
    | nil => rfl
    | cons a ks ih =>
      simp only [List.map_cons, clns, ih, Bool.and_true]
      cases a <;> rfl
  | int i => rfl
  | str s => rfl
  | _ => cases h
theorem Owns.setv {H' : Hp} {d : D} {v : V} {f1 : List Addr} (o : Own K cl G H' d v f1) : ∀ {es : List D} {xs : List V} {f : List Addr} {j : Nat}, Owns K cl G H es xs f → j < es.length → (∀ b ∈ f, H' b = H b) → ∃ f' r, Owns K cl G H' (es.set j d) (xs.set j v) f' ∧ f'.Perm (f1 ++ r) ∧ r.Sublist f
  | [], _, _, _, _, h, _ => by simp at h
  | c :: es, _, _, j, w, hl, hk => by
    obtain ⟨x, r, g1, g2, rfl, rfl, h1, h2⟩ := w
    cases j with
    | zero => exact ⟨f1 ++ g2, g2, ⟨v, r, f1, g2, rfl, rfl, o, h2.mono (Ge.refl _) fun b m => ⟨hk b (List.mem_append_right _ m), (h2.at b m).2⟩⟩, .refl _, List.sublist_append_right _ _⟩
    | succ j =>
      obtain ⟨f', r', w, pm, sl⟩ := Owns.setv o (j := j) h2 (by simpa using hl) (fun b m => hk b (List.mem_append_right _ m))
      refine ⟨g1 ++ f', g1 ++ r', ⟨x, _, g1, f', rfl, rfl, h1.mono (Ge.refl _) fun b m => ⟨hk b (List.mem_append_left _ m), (h1.at b m).2⟩, w⟩, (pm.append_left g1).trans ?_, sl.append_left g1⟩
      rw [← List.append_assoc, ← List.append_assoc]
      exact List.perm_append_comm.append_right _
theorem fp_put {a : Addr} {f f' f1 r : List Addr} (nd : ((a :: f) ++ f1).Nodup) (pm : f'.Perm (f1 ++ r)) (sl : r.Sublist f) : (∀ b ∈ (a :: f') ++ ([] : List Addr), b ∈ (a :: f) ++ f1) ∧ ((a :: f') ++ ([] : List Addr)).Nodup := by
  rw [List.append_nil]
  have nd' := List.nodup_append.mp nd
  have n1 := List.nodup_cons.mp nd'.1
  refine ⟨fun b m => ?_, List.nodup_cons.mpr ⟨fun m => ?_, pm.nodup_iff.mpr (List.nodup_append.mpr ⟨nd'.2.1, n1.2.sublist sl, fun b mb c mc z => nd'.2.2 c (.tail _ (sl.subset mc)) b mb z.symm⟩)⟩⟩
  · rcases List.mem_cons.mp m with rfl | m
    · exact .head _
    · rcases List.mem_append.mp (pm.mem_iff.mp m) with m | m
      · exact List.mem_append_right _ m
      · exact List.mem_append_left _ (.tail _ (sl.subset m))
  · rcases List.mem_append.mp (pm.mem_iff.mp m) with m | m
    · exact nd'.2.2 a (.head _) a m rfl
    · exact n1.1 (sl.subset m)
theorem findI_lt {k : D} : ∀ {ks : List D} {j : Nat}, findI k ks = some j → j < ks.length
  | [], _, h => by cases h
  | z :: ks, j, h => by
    simp only [findI] at h
    split at h
    · cases h; simp
    · obtain ⟨j', h', rfl⟩ := Option.map_eq_some_iff.mp h
      have := findI_lt h'
      simpa using this
theorem DicOk.len {t : Bool} {ks : List D} {u : HO} {xs : List V} (dk : DicOk t ks u xs) : ks.length = xs.length := by
  cases t <;> obtain ⟨kv, rfl, rfl, rfl, _⟩ := dk <;> simp
theorem mut_store : MutR K cl rStore storeD := by
  intro G H e u ds vs e' res fe fa Q sb tg hf l oe oa nd k
  unfold storeD at hf
  split at hf
  · rename_i es i d
    split at hf
    · rename_i j hj
      cases hf
      obtain ⟨a, xs, f, rfl, eh, gn, rfl, ow⟩ := oe
      match vs, l, oa with
      | [y, v], _, oa =>
        obtain ⟨f0, f1', rfl, ⟨rfl, rfl⟩, f1, f2, rfl, o1, z⟩ := oa
        rw [show f2 = [] from z, List.append_nil, List.nil_append] at nd k
        have nd' := List.nodup_append.mp nd
        have n1 := List.nodup_cons.mp nd'.1
        have n2 : a ∉ f1 := fun m => nd'.2.2 a (.head _) a m rfl
        have hjl : j < es.length := (ixN_seq hj).2.1
        obtain ⟨f', r, w, pm, sl⟩ := Owns.setv (o1.upd (o := .lst (xs.set j v)) n2) ow hjl fun b m => upd_ne fun z => n1.1 (z ▸ m)
        obtain ⟨p1, p2⟩ := fp_put nd pm sl
        exact ⟨_, v, rfl, .inl ⟨a, xs, i, j, rfl, rfl, eh, by rw [← ow.length]; exact hj, k a _ .non rfl (fun _ z => nomatch z) (.head _) ⟨a :: f', [], ⟨a, _, f', rfl, upd_same, gn, rfl, w⟩, ⟨rfl, rfl⟩, p1, p2⟩⟩⟩
    · cases hf
  · rename_i t ks es kk d
    split at hf
    · rename_i hok
      obtain ⟨ok, hz⟩ := hok
      obtain ⟨a, w, xs, f, rfl, eh, gn, dk, rfl, ow⟩ := oe
      match vs, l, oa with
      | [y, v], _, oa =>
        obtain ⟨f0, f1', rfl, oy, f1, f2, rfl, o1, z⟩ := oa
        have hf0 : f0 = [] := oy.clean (keyOk_clean ok)
        subst hf0
        rw [show f2 = [] from z, List.append_nil, List.nil_append] at nd k
        have nd' := List.nodup_append.mp nd
        have n1 := List.nodup_cons.mp nd'.1
        have n2 : a ∉ f1 := fun m => nd'.2.2 a (.head _) a m rfl
        obtain ⟨u', dp, nt, dk'⟩ := dic_put (v := v) sb dk eh ok oy hz
        refine ⟨y, v, rfl, .inr ⟨a, _, rfl, dp, ?_⟩⟩
        split at hf
        · rename_i j hj
          cases hf
          rw [hj] at dk'
          have hjl : j < es.length := by have := findI_lt hj; rw [ow.length, ← dk.len]; exact this
          obtain ⟨f', r, w', pm, sl⟩ := Owns.setv (o1.upd (o := u') n2) ow hjl fun b m => upd_ne fun z => n1.1 (z ▸ m)
          obtain ⟨p1, p2⟩ := fp_put nd pm sl
          exact k a u' .non rfl nt (.head _) ⟨a :: f', [], ⟨a, u', _, f', rfl, upd_same, gn, dk', rfl, w'⟩, ⟨rfl, rfl⟩, p1, p2⟩
        · rename_i hj
          cases hf
          rw [hj] at dk'
          exact k a u' .non rfl nt (.head _) ⟨a :: (f ++ f1), [], ⟨a, u', _, f ++ f1, rfl, upd_same, gn, dk', rfl, (ow.upd n1.1).append ⟨v, [], f1, [], rfl, by simp, o1.upd n2, rfl, rfl⟩⟩, ⟨rfl, rfl⟩, fun b m => by simpa using m, by simpa using nd⟩
    · cases hf
  · cases hf
end
end PX

namespace PX
open PySem PySem.Spec PyProof.Rows L2
section
variable {X : Cx} {cl : Clss} {E : Wt}
theorem tav_nil_use {K : PySem.W.Frag} {W : List Nat} {σ : L2.St} {H : Hp} {Q : List V → Hp → Prop} (h : TAV K cl E W mNil σ H Q) : Q [] H := by
  obtain ⟨Pn, G0, Fr, Γ, Ts, G, fs, Ex, r, ex, q⟩ := h
  exact (Sat.pure.mp q) [] H G fs rfl r Keep.refl
/-- o.m(..) that changes what stands at a place -/
theorem tx_meth {o e : Expr} {es : List Expr} {name : Str} {apos cpos : Pos} {id : String} {b : Bool} {r : V → List V → Hp → VK → Prop} {f : D → List D → Option (D × D)} {i : Nat} {pp : PM (List D)} {n : M (List D)} {W W' : List Nat}
    (pa : PlainAttrs (tyB b)) (slot : Slot (tyB b) name id) (hty : typeOf (.builtin id) = pure (.type "method_descriptor")) (hm : MtR X id r) (mr : MutR X.K cl r f) (ho : PE X o (TL X.K cl i pp)) (ha : PA X (e :: es) (TAV X.K cl E W n))
    (hiW : i ∉ W ∨ pp = pNil) (hWW : ∀ j ∈ W, j ∈ W') (hi : i ∈ W')
    (hbase : attributeBase o name X.env (eval o X.env) = eval o X.env)
    (hfew : ((backTo cpos (starEach (e :: es) X.env)).all (fun x => !x.1) && (backToKw cpos (keywordEach [] X.env)).all (fun x => x.1.isSome)
      && decide ((e :: es).length + ([] : List Keyword).length + (if ([] : List Keyword).isEmpty then 0 else 1) < 30)) = true)
    (hline : (apos.endLine == cpos.line) = true) (hs : starEach (e :: es) X.env = (false, eval e X.env) :: starEach es X.env) (hplain : (backTo cpos (starEach es X.env)).any (·.1) = false) :
    PE X (.Call (.Attribute o name apos) (e :: es) [] cpos) (TX X.K cl E W' (mMeth b i pp f n)) :=
  (pe_bm pa slot hty hm ho ha hbase hfew hline hs hplain).weak fun σ H Q h => tmeth_of mr hiW hWW hi h
theorem tx_meth0 {o : Expr} {name : Str} {apos cpos : Pos} {id : String} {b : Bool} {r : V → List V → Hp → VK → Prop} {f : D → List D → Option (D × D)} {i : Nat} {pp : PM (List D)} {W' : List Nat}
    (pa : PlainAttrs (tyB b)) (slot : Slot (tyB b) name id) (hty : typeOf (.builtin id) = pure (.type "method_descriptor")) (hm : MtR X id r) (mr : MutR X.K cl r f) (ho : PE X o (TL X.K cl i pp)) (hi : i ∈ W')
    (hbase : attributeBase o name X.env (eval o X.env) = eval o X.env) (hline : (apos.endLine == cpos.line) = true) :
    PE X (.Call (.Attribute o name apos) [] [] cpos) (TX X.K cl E W' (mMeth b i pp f mNil)) :=
  (pe_bm0 pa slot hty hm ho hbase hline).weak fun σ H Q h => by
    have h2 := tmeth_of (W := []) mr (.inl (by simp)) (fun _ z => nomatch z) hi h
    obtain ⟨Pn, G0, Fr, Γ, Ts, G, fs, R, d, v, ks, e, e1, e2, e3, e4, q⟩ := h2
    exact ⟨Pn, G0, Fr, Γ, Ts, G, fs, R, d, v, ks, e, e1, e2, e3, e4, fun u hu => ⟨(q u hu).1, tav_nil_use (q u hu).2⟩⟩
/-! a[k] = d -/
def mAt (i : Nat) (ks : List D) : M Unit := fun Γ => match Γ[i]? with
  | some (some d) => match getAt d ks with
    | some _ => some (.ok (), Γ)
    | none => none
  | _ => none
theorem Sat.mAt {Ex : Nat → Env → Prop} {i : Nat} {ks : List D} {Γ : Env} {k : Unit → Env → Prop} (h : Sat Ex (mAt i ks) Γ k) : (∃ d e, Γ[i]? = some (some d) ∧ getAt d ks = some e) ∧ k () Γ := by
  unfold Sat PX.mAt at h
  cases e1 : Γ[i]? with
  | none => rw [e1] at h; exact h.elim
  | some γ =>
    rw [e1] at h
    cases γ with
    | none => exact h.elim
    | some d =>
      dsimp only at h
      cases e2 : getAt d ks with
      | none => rw [e2] at h; exact h.elim
      | some e => rw [e2] at h; exact ⟨⟨d, e, rfl, e2⟩, h⟩
def mPut (i : Nat) (pp : PM (List D)) (mi : M D) (d : D) : M Unit := do
  let ks ← mP pp
  mAt i ks
  let k ← mi
  let _ ← mUpd i ks fun e => storeD e [fz k, d]
  pure ()
theorem tg_sub {o ix : Expr} {pos : Pos} {i : Nat} {pp : PM (List D)} {mi : M D} {W W' : List Nat} (hu : X.A.units + 1 < cLine) (ho : PE X o (TL X.K cl i pp)) (hi : PE X ix (TX X.K cl E W mi)) (hiW : i ∉ W ∨ pp = pNil) (hWW : ∀ j ∈ W, j ∈ W') (hiW' : i ∈ W')
    (ha : ∀ v, assign (.Subscript o ix pos) X.env v = (do
      let ov ← holding [v] (eval o X.env)
      let iv ← holding [v, ov] (eval ix X.env)
      standAt pos
      holding [v, ov, iv] (setItem ov iv v)
      release [v, ov, iv] [])) : PG X (.Subscript o ix pos) (TGt X.K cl E W' (mPut i pp mi)) := by
  refine (pg_sub ho hi (set_both hu) ha).weak fun v σ H Q ⟨Pn, G0, Fr, Γ, Ts, G, fs, Ex, d, R, ex, q⟩ => ?_
  obtain ⟨ks, hp, q⟩ := Sat.mP.mp (Sat.bind.mp q)
  obtain ⟨⟨d0, e0, h1, h2⟩, q⟩ := Sat.mAt (Sat.bind.mp q)
  obtain ⟨v0, f0, hv, e3, od⟩ := R.sl.get h1
  refine ⟨Pn, G0, Fr, Γ, _, G, fs, R, d0, v0, ks, e0, h1, hv, hp, h2, fun u hu => ?_⟩
  obtain ⟨u', fe, rest, ru, oe, _, keep, _⟩ := od.apart R.sub h2
  have eu := ru.det hu
  subst eu
  refine ⟨Pn, G, Fr, Γ, _, G, fs, Ex, R.base (Ge.refl _), ex.base R.ge, (Sat.bind.mp q).imp fun k Γ1 kk y H1 G1 fs1 R1 k1 => ?_⟩
  have hu' : RchV H1 v0 ks u' := by
    rcases hiW with hiW | hpp
    · exact keep H1 (fun a m => (k1.2 i hiW).2 f0 e3 a m) (R1.ge.tups R1.sub)
    · subst hpp
      cases hp
      exact hu
  obtain ⟨G2, R2⟩ := R1.fz
  obtain ⟨d1, e1, e', res, d', g1, g2, g3, g4, kf⟩ := Sat.mUpd (Sat.bind.mp kk)
  have R3 : Rel X.K cl G2 H1 Pn G0 Fr Γ1 ([fz k, d].zip [y, v] ++ Ts) σ fs1 := R2.base (R.ge.trans R2.ge)
  have q2 := upd_place (Q := fun _ H3 => Q σ H3) mut_store R3 rfl hv g1 g2 g3 g4 hu' fun w H3 G3 fs3 R4 k4 => (Sat.pure.mp kf) σ H3 G3 fs3 R4.drop1 ((k1.mono hWW).trans (k4.mono fun j m => by rw [List.mem_singleton.mp m]; exact hiW'))
  obtain ⟨y', v', ee, s⟩ := q2
  cases ee
  exact s
/-! d.get(k), d.get(k, x) -/
def pGet1 (p q : PM D) : PM D := fun Γ => match p Γ, q Γ with
  | some (.dic _ t ks ds), some k => if keyOk t k then some ((findK k ks ds).getD .non) else none
  | _, _ => none
def pGet2 (p q x : PM D) : PM D := fun Γ => match p Γ, q Γ, x Γ with
  | some (.dic _ t ks ds), some k, some z => if keyOk t k then some ((findK k ks ds).getD z) else none
  | _, _, _ => none
theorem isD_of {K : PySem.W.Frag} {H : Hp} {t : Bool} {ks : List D} {u : HO} {xs : List V} {a : Addr} (dk : DicOk t ks u xs) (rd : Rd H a u) : IsD H a := by
  cases t <;> obtain ⟨kv, rfl, _⟩ := dk
  · exact .inl ⟨kv, rd⟩
  · exact .inr ⟨kv, rd⟩
theorem tp_get1 {o e : Expr} {apos cpos : Pos} {p q : PM D} (hu : X.A.units + 1 < cLine) (ho : PE X o (TP X.K cl p)) (he : PE X e (TP X.K cl q)) (m : M1 X o "get" apos e cpos) : PE X (.Call (.Attribute o "get" apos) [e] [] cpos) (TP X.K cl (pGet1 p q)) := by
  refine (pe_dget1 hu ho he m).weak fun σ H Q ⟨Pn, G0, Fr, Γ, Ts, G, fs, r, z, hz, k⟩ => ?_
  unfold pGet1 at hz
  split at hz
  · rename_i ob t ks ds kk h1 h2
    split at hz
    · rename_i ok
      cases hz
      refine ⟨Pn, G0, Fr, Γ, Ts, G, fs, r, _, h1, fun x fx ox => ?_⟩
      obtain ⟨a, u, xs, g, rfl, rd, dk, ow, _⟩ := ox.dic r.sub
      refine ⟨a, rfl, isD_of (K := X.K) dk rd, Pn, G0, Fr, Γ, Ts, G, fs, r, _, h2, fun y fy oy => ?_⟩
      obtain ⟨w, hg, _, hf⟩ := dic_look r.sub dk rd ow ok oy
      refine ⟨w, hg, ?_⟩
      cases hk : findK kk ks ds with
      | none => rw [hk] at hf k; subst hf; exact k .non [] ⟨rfl, rfl⟩
      | some d => rw [hk] at hf k; obtain ⟨x, h, rfl, o, _⟩ := hf; exact k x h o
    · cases hz
  · cases hz
theorem tp_get2 {o e f : Expr} {apos cpos : Pos} {p q x : PM D} (hu : X.A.units + 1 < cLine) (ho : PE X o (TP X.K cl p)) (he : PE X e (TP X.K cl q)) (hf : PE X f (TP X.K cl x)) (m : M2 X o "get" apos e f cpos) : PE X (.Call (.Attribute o "get" apos) [e, f] [] cpos) (TP X.K cl (pGet2 p q x)) := by
  refine (pe_dget2 hu ho he hf m).weak fun σ H Q ⟨Pn, G0, Fr, Γ, Ts, G, fs, r, z, hz, k⟩ => ?_
  unfold pGet2 at hz
  split at hz
  · rename_i ob t ks ds kk zz h1 h2 h3
    split at hz
    · rename_i ok
      cases hz
      refine ⟨Pn, G0, Fr, Γ, Ts, G, fs, r, _, h1, fun x fx ox => ?_⟩
      obtain ⟨a, u, xs, g, rfl, rd, dk, ow, _⟩ := ox.dic r.sub
      refine ⟨a, rfl, isD_of (K := X.K) dk rd, Pn, G0, Fr, Γ, Ts, G, fs, r, _, h2, fun y fy oy => ⟨Pn, G0, Fr, Γ, Ts, G, fs, r, _, h3, fun zv fz oz => ?_⟩⟩
      obtain ⟨w, hg, _, hf⟩ := dic_look r.sub dk rd ow ok oy
      refine ⟨w, hg, ?_⟩
      cases hk : findK kk ks ds with
      | none => rw [hk] at hf k; subst hf; exact k zv fz oz
      | some d => rw [hk] at hf k; obtain ⟨x, h, rfl, o, _⟩ := hf; exact k x h o
    · cases hz
  · cases hz
end
end PX

namespace PX
open PySem PySem.Spec PyProof.Rows L2
section
variable {cl : Clss} {E : Wt} {X : Cx}
theorem idW {W : List Nat} : ∀ j ∈ W, j ∈ W := fun _ h => h
/-! ### operators, comparisons, subscripts -/
theorem tp_op {op : Operator} {a b : Expr} {g : D → D → Option D} {p q : PM D} {pos : Pos} (h : OpS X cl (binaryOp op) g) (ha : PE X a (TP X.K cl p)) (hb : PE X b (TP X.K cl q)) : PE X (.BinOp a op b pos) (TP X.K cl (pOp2 g p q)) := (pe_op h.opR ha hb).weak fun σ H Q t => t2_PP t
theorem tx_op {op : Operator} {a b : Expr} {g : D → D → Option D} {m n : M D} {W : List Nat} {pos : Pos} (h : OpS X cl (binaryOp op) g) (ha : PE X a (TX X.K cl E W m)) (hb : PE X b (TX X.K cl E W n)) : PE X (.BinOp a op b pos) (TX X.K cl E W (mOp2 (gC g) m n)) := (pe_op h.opR ha hb).weak fun σ H Q t => t2_EE idW idW t
theorem tx_opN {op : Operator} {a b : Expr} {g : D → D → Option D} {m n : M D} {W : List Nat} {pos : Pos} (h : OpA X cl (binaryOp op) g) (ha : PE X a (TX X.K cl E W m)) (hb : PE X b (TX X.K cl E W n)) : PE X (.BinOp a op b pos) (TX X.K cl E W (mOp2 g m n)) := (pe_op h.opR ha hb).weak fun σ H Q t => n2_EE idW idW t
theorem tp_cmp {op : CmpOp} {a b : Expr} {g : D → D → Option D} {p q : PM D} {pos : Pos} (h : OpS X cl (compareOp op) g) (ha : PE X a (TP X.K cl p)) (hb : PE X b (TP X.K cl q)) (hm : behindInMarks op b = false) : PE X (.Compare a [op] [b] pos) (TP X.K cl (pOp2 g p q)) := (pe_cmpR h.opR ha hb hm).weak fun σ H Q t => t2_PP t
theorem tx_cmp {op : CmpOp} {a b : Expr} {g : D → D → Option D} {m n : M D} {W : List Nat} {pos : Pos} (h : OpS X cl (compareOp op) g) (ha : PE X a (TX X.K cl E W m)) (hb : PE X b (TX X.K cl E W n)) (hm : behindInMarks op b = false) : PE X (.Compare a [op] [b] pos) (TX X.K cl E W (mOp2 (gC g) m n)) := (pe_cmpR h.opR ha hb hm).weak fun σ H Q t => t2_EE idW idW t
theorem tp_sub {a b : Expr} {g : D → D → Option D} {p q : PM D} {pos : Pos} (h : IxS X cl g) (ha : PE X a (TP X.K cl p)) (hb : PE X b (TP X.K cl q)) (hs : PlainIx b) : PE X (.Subscript a b pos) (TP X.K cl (pOp2 g p q)) := (pe_ix h.ixR ha hb hs).weak fun σ H Q t => t2_PP t
theorem tx_sub {a b : Expr} {g : D → D → Option D} {m n : M D} {W : List Nat} {pos : Pos} (h : IxS X cl g) (ha : PE X a (TX X.K cl E W m)) (hb : PE X b (TX X.K cl E W n)) (hs : PlainIx b) : PE X (.Subscript a b pos) (TX X.K cl E W (mOp2 (gC g) m n)) := (pe_ix h.ixR ha hb hs).weak fun σ H Q t => t2_EE idW idW t
/-- one operand -/
def pUn (g : D → Option D) (p : PM D) : PM D := fun Γ => match p Γ with
  | some d => g d
  | none => none
def mUn (g : D → Option D) (m : M D) : M D := do let d ← m; mO (g (fz d))
def negX : D → Option D
  | .int i => some (.int (-i))
  | _ => none
theorem tp_neg {a : Expr} {p : PM D} {pos : Pos} (ha : PE X a (TP X.K cl p)) : PE X (.UnaryOp .USub a pos) (TP X.K cl (pUn negX p)) := by
  refine (pe_un un_neg ha).weak fun σ H Q ⟨Pn, G0, Fr, Γ, Ts, G, fs, r, d, hd, k⟩ => ?_
  unfold pUn at hd
  cases hp : p Γ with
  | none => rw [hp] at hd; cases hd
  | some e =>
    rw [hp] at hd
    refine ⟨Pn, G0, Fr, Γ, Ts, G, fs, r, e, hp, fun v f o => ?_⟩
    cases e with
    | int i =>
      cases hd
      obtain ⟨rfl, rfl⟩ := o
      exact ⟨i, rfl, k _ [] ⟨rfl, rfl⟩⟩
    | _ => cases hd
theorem tx_neg {a : Expr} {m : M D} {W : List Nat} {pos : Pos} (ha : PE X a (TX X.K cl E W m)) : PE X (.UnaryOp .USub a pos) (TX X.K cl E W (mUn negX m)) := by
  refine (pe_un un_neg ha).weak fun σ H Q ⟨Pn, G0, Fr, Γ, Ts, G, fs, Ex, r, ex, q⟩ => ?_
  refine ⟨Pn, G0, Fr, Γ, Ts, G, fs, Ex, r, ex, (Sat.bind.mp q).imp fun d Γ1 k v H1 G1 fs1 r1 k1 => ?_⟩
  obtain ⟨z, hz, k⟩ := Sat.mO.mp k
  cases d with
  | int i =>
    cases hz
    obtain ⟨_, rfl, _⟩ := r1.top
    exact ⟨i, rfl, k _ H1 G1 fs1 (r1.drop1.push ⟨rfl, rfl⟩) k1⟩
  | _ => cases hz
/-! ### tests -/
def blX : D → Option Bool
  | .bl b => some b
  | _ => none
/-- a thing's truth -/
def truD : D → Option Bool
  | .non => some false
  | .bl b => some b
  | .int i => some (i != 0)
  | .str s => if szok s.length then some ((s.length : Int) != 0) else none
  | .lst _ ds => some (!ds.isEmpty)
  | .klst ds => some (!ds.isEmpty)
  | .tup ds => some (!ds.isEmpty)
  | .ktp ds => some (!ds.isEmpty)
  | .dic true false ks _ => some (!ks.isEmpty)
  | _ => none
theorem Owns.empty {K : PySem.W.Frag} {G H : Hp} {ds : List D} {xs : List V} {f : List Addr} (o : Owns K cl G H ds xs f) : (!ds.isEmpty) = !xs.isEmpty := by
  have := o.length
  cases ds <;> cases xs <;> simp at this ⊢
theorem Own.tru {K : PySem.W.Frag} {G H : Hp} (sb : Sub G H) {d : D} {v : V} {f : List Addr} {k : Bool} (o : Own K cl G H d v f) (h : truD d = some k) : TruV K v H k := by
  cases d with
  | non => cases h; obtain ⟨rfl, _⟩ := o; rfl
  | bl b => cases h; obtain ⟨rfl, _⟩ := o; rfl
  | int i => cases h; obtain ⟨rfl, _⟩ := o; rfl
  | str s =>
    simp only [truD] at h
    split at h
    · rename_i hz
      cases h
      obtain ⟨rfl, _⟩ := o
      exact ⟨of_decide_eq_true hz, rfl⟩
    · cases h
  | lst b ds =>
    cases h
    obtain ⟨a, xs, g, rfl, sq, ow, _⟩ := Own.seq sb (d := .lst b ds) rfl o
    rcases sq with sq | sq
    · exact .inl ⟨xs, sq, ow.empty⟩
    · exact .inr (.inl ⟨xs, sq, ow.empty⟩)
  | klst ds =>
    cases h
    obtain ⟨a, xs, g, rfl, sq, ow, _⟩ := Own.seq sb (d := .klst ds) rfl o
    rcases sq with sq | sq
    · exact .inl ⟨xs, sq, ow.empty⟩
    · exact .inr (.inl ⟨xs, sq, ow.empty⟩)
  | tup ds =>
    cases h
    obtain ⟨a, xs, g, rfl, sq, ow, _⟩ := Own.seq sb (d := .tup ds) rfl o
    rcases sq with sq | sq
    · exact .inl ⟨xs, sq, ow.empty⟩
    · exact .inr (.inl ⟨xs, sq, ow.empty⟩)
  | ktp ds =>
    cases h
    obtain ⟨a, xs, g, rfl, sq, ow, _⟩ := Own.seq sb (d := .ktp ds) rfl o
    rcases sq with sq | sq
    · exact .inl ⟨xs, sq, ow.empty⟩
    · exact .inr (.inl ⟨xs, sq, ow.empty⟩)
  | dic b t ks ds =>
    cases b with
    | false => cases h
    | true =>
      cases t with
      | true => cases h
      | false =>
        cases h
        obtain ⟨a, u, xs, g, rfl, e, _, ⟨kv, rfl, rfl, _⟩, _⟩ := o
        exact .inr (.inr ⟨kv, e, by cases kv <;> rfl⟩)
  | _ => cases h
theorem truD_fz {d : D} {k : Bool} (h : truD d = some k) : truD (fz d) = some k ∨ ∃ ks ds, d = .dic true false ks ds := by
  cases d with
  | dic b t ks ds =>
    cases b with
    | false => cases h
    | true =>
      cases t with
      | true => cases h
      | false => exact .inr ⟨ks, ds, rfl⟩
  | lst b ds => cases h; cases ds <;> exact .inl rfl
  | klst ds => cases h; cases ds <;> exact .inl rfl
  | tup ds => cases h; cases ds <;> exact .inl rfl
  | ktp ds => cases h; cases ds <;> exact .inl rfl
  | _ => exact .inl h
def pTru (p : PM D) : PM Bool := fun Γ => match p Γ with
  | some d => truD d
  | none => none
def mTru (m : M D) : M Bool := do let d ← m; mO (truD d)
theorem tt_P {e : Expr} {p : PM D} (h : PE X e (TP X.K cl p)) (he : ∀ whole, isTrue e X.env whole = (do let v ← whole; standAt e.pos; holding [v] (truthy v))) : PT X e (TTP X.K cl (pTru p)) := by
  refine (pt_truth h he).weak fun σ H Q ⟨Pn, G0, Fr, Γ, Ts, G, fs, r, b, hb, k⟩ => ?_
  unfold pTru at hb
  cases hp : p Γ with
  | none => rw [hp] at hb; cases hb
  | some d =>
    rw [hp] at hb
    exact ⟨Pn, G0, Fr, Γ, Ts, G, fs, r, d, hp, fun v f o => ⟨b, o.tru r.sub hb, k⟩⟩
theorem tt_X {e : Expr} {m : M D} {W : List Nat} (h : PE X e (TX X.K cl E W m)) (he : ∀ whole, isTrue e X.env whole = (do let v ← whole; standAt e.pos; holding [v] (truthy v))) : PT X e (TTX X.K cl E W (mTru m)) := by
  refine (pt_truth h he).weak fun σ H Q ⟨Pn, G0, Fr, Γ, Ts, G, fs, Ex, r, ex, q⟩ => ?_
  refine ⟨Pn, G0, Fr, Γ, Ts, G, fs, Ex, r, ex, (Sat.bind.mp q).imp fun d Γ1 k v H1 G1 fs1 r1 k1 => ?_⟩
  obtain ⟨b, hb, k⟩ := Sat.mO.mp k
  obtain ⟨f, o⟩ := r1.top
  exact ⟨b, o.tru r1.sub hb, k H1 G1 fs1 r1.drop1 k1⟩
/-- comparisons as tests -/
def pBl (p : PM D) : PM Bool := fun Γ => match p Γ with
  | some d => blX d
  | none => none
def mBl (m : M D) : M Bool := do let d ← m; mO (blX d)
theorem tt_cmpP {op : CmpOp} {a b : Expr} {g : D → D → Option D} {p q : PM D} {pos : Pos} (h : OpS X cl (compareOp op) g) (ha : PE X a (TP X.K cl p)) (hb : PE X b (TP X.K cl q)) (hm : behindInMarks op b = false) : PT X (.Compare a [op] [b] pos) (TTP X.K cl (pBl (pOp2 g p q))) := by
  refine (pt_cmpR h.opR ha hb hm).weak fun σ H Q ⟨Pn, G0, Fr, Γ, Ts, G, fs, r, c, hc, k⟩ => ?_
  unfold pBl at hc
  cases hp : pOp2 g p q Γ with
  | none => rw [hp] at hc; cases hc
  | some d =>
    rw [hp] at hc
    refine t2_PP ⟨Pn, G0, Fr, Γ, Ts, G, fs, r, d, hp, fun v f o => ?_⟩
    cases d with
    | bl b => cases hc; obtain ⟨rfl, _⟩ := o; exact ⟨c, rfl, k⟩
    | _ => cases hc
theorem tt_cmpX {op : CmpOp} {a b : Expr} {g : D → D → Option D} {m n : M D} {W : List Nat} {pos : Pos} (h : OpS X cl (compareOp op) g) (ha : PE X a (TX X.K cl E W m)) (hb : PE X b (TX X.K cl E W n)) (hm : behindInMarks op b = false) : PT X (.Compare a [op] [b] pos) (TTX X.K cl E W (mBl (mOp2 (gC g) m n))) := by
  refine (pt_cmpR h.opR ha hb hm).weak fun σ H Q ⟨Pn, G0, Fr, Γ, Ts, G, fs, Ex, r, ex, q⟩ => ?_
  refine t2_EE idW idW ⟨Pn, G0, Fr, Γ, Ts, G, fs, Ex, r, ex, (Sat.bind.mp q).imp fun d Γ1 k v H1 G1 fs1 r1 k1 => ?_⟩
  obtain ⟨c, hc, k⟩ := Sat.mO.mp k
  cases d with
  | bl b => cases hc; obtain ⟨_, rfl, _⟩ := r1.top; exact ⟨c, rfl, k H1 G1 fs1 r1.drop1 k1⟩
  | _ => cases hc
/-- not, and, or -/
def pNotB (p : PM Bool) : PM Bool := fun Γ => (p Γ).map (!·)
def pAndB (p q : PM Bool) : PM Bool := fun Γ => match p Γ with
  | some true => q Γ
  | some false => some false
  | none => none
def pOrB (p q : PM Bool) : PM Bool := fun Γ => match p Γ with
  | some false => q Γ
  | some true => some true
  | none => none
def mNotB (m : M Bool) : M Bool := do let b ← m; pure (!b)
def mAndB (m n : M Bool) : M Bool := do let b ← m; if b then n else pure false
def mOrB (m n : M Bool) : M Bool := do let b ← m; if b then pure true else n
theorem tt_notP {a : Expr} {p : PM Bool} {pos : Pos} (h : PT X a (TTP X.K cl p)) : PT X (.UnaryOp .Not a pos) (TTP X.K cl (pNotB p)) := (pt_not h).weak fun σ H Q ⟨Pn, G0, Fr, Γ, Ts, G, fs, r, c, hc, k⟩ => by
  obtain ⟨b, hb, rfl⟩ := Option.map_eq_some_iff.mp hc
  exact ⟨Pn, G0, Fr, Γ, Ts, G, fs, r, b, hb, k⟩
theorem tt_notX {a : Expr} {m : M Bool} {W : List Nat} {pos : Pos} (h : PT X a (TTX X.K cl E W m)) : PT X (.UnaryOp .Not a pos) (TTX X.K cl E W (mNotB m)) := (pt_not h).weak fun σ H Q ⟨Pn, G0, Fr, Γ, Ts, G, fs, Ex, r, ex, q⟩ =>
  ⟨Pn, G0, Fr, Γ, Ts, G, fs, Ex, r, ex, (Sat.bind.mp q).imp fun b Γ1 k H1 G1 fs1 r1 k1 => (Sat.pure.mp k) H1 G1 fs1 r1 k1⟩
theorem _root_.L2.PW.weak {X : Cx} {e : Expr} {t t' : TT} (h : PW X e t) (w : ∀ σ H Q, t' σ H Q → t σ H Q) : PW X e t' := ⟨fun wh pins s σ H Q I q => h.run wh pins s σ H Q I (w σ H Q q)⟩
theorem tw_andP {a b : Expr} {rest : List Expr} {p q : PM Bool} {pos : Pos} (ha : PT X a (TTP X.K cl p)) (hb : PW X (.BoolOp .And (b :: rest) pos) (TTP X.K cl q)) : PW X (.BoolOp .And (a :: b :: rest) pos) (TTP X.K cl (pAndB p q)) :=
  (pw_and ha hb).weak fun σ H Q ⟨Pn, G0, Fr, Γ, Ts, G, fs, r, c, hc, k⟩ => by
    unfold pAndB at hc
    cases hp : p Γ with
    | none => rw [hp] at hc; cases hc
    | some d =>
      rw [hp] at hc
      refine ⟨Pn, G0, Fr, Γ, Ts, G, fs, r, d, hp, ?_⟩
      cases d with
      | true => rw [if_pos rfl]; exact ⟨Pn, G0, Fr, Γ, Ts, G, fs, r, c, hc, k⟩
      | false => rw [if_neg Bool.false_ne_true]; cases hc; exact k
theorem tw_orP {a b : Expr} {rest : List Expr} {p q : PM Bool} {pos : Pos} (ha : PT X a (TTP X.K cl p)) (hb : PW X (.BoolOp .Or (b :: rest) pos) (TTP X.K cl q)) : PW X (.BoolOp .Or (a :: b :: rest) pos) (TTP X.K cl (pOrB p q)) :=
  (pw_or ha hb).weak fun σ H Q ⟨Pn, G0, Fr, Γ, Ts, G, fs, r, c, hc, k⟩ => by
    unfold pOrB at hc
    cases hp : p Γ with
    | none => rw [hp] at hc; cases hc
    | some d =>
      rw [hp] at hc
      refine ⟨Pn, G0, Fr, Γ, Ts, G, fs, r, d, hp, ?_⟩
      cases d with
      | false => rw [if_neg Bool.false_ne_true]; exact ⟨Pn, G0, Fr, Γ, Ts, G, fs, r, c, hc, k⟩
      | true => rw [if_pos rfl]; cases hc; exact k
theorem tw_andX {a b : Expr} {rest : List Expr} {m n : M Bool} {W : List Nat} {pos : Pos} (ha : PT X a (TTX X.K cl E W m)) (hb : PW X (.BoolOp .And (b :: rest) pos) (TTX X.K cl E W n)) : PW X (.BoolOp .And (a :: b :: rest) pos) (TTX X.K cl E W (mAndB m n)) :=
  (pw_and ha hb).weak fun σ H Q ⟨Pn, G0, Fr, Γ, Ts, G, fs, Ex, r, ex, q⟩ => ⟨Pn, G0, Fr, Γ, Ts, G, fs, Ex, r, ex, (Sat.bind.mp q).imp fun b Γ1 k H1 G1 fs1 r1 k1 => by
    cases b with
    | true => rw [if_pos rfl]; exact ⟨Pn, G0, Fr, Γ1, Ts, G1, fs1, Ex, r1, ex, k.imp fun c Γ2 k H2 G2 fs2 r2 k2 => k H2 G2 fs2 r2 (k1.trans k2)⟩
    | false => rw [if_neg Bool.false_ne_true]; exact (Sat.pure.mp k) H1 G1 fs1 r1 k1⟩
theorem tw_orX {a b : Expr} {rest : List Expr} {m n : M Bool} {W : List Nat} {pos : Pos} (ha : PT X a (TTX X.K cl E W m)) (hb : PW X (.BoolOp .Or (b :: rest) pos) (TTX X.K cl E W n)) : PW X (.BoolOp .Or (a :: b :: rest) pos) (TTX X.K cl E W (mOrB m n)) :=
  (pw_or ha hb).weak fun σ H Q ⟨Pn, G0, Fr, Γ, Ts, G, fs, Ex, r, ex, q⟩ => ⟨Pn, G0, Fr, Γ, Ts, G, fs, Ex, r, ex, (Sat.bind.mp q).imp fun b Γ1 k H1 G1 fs1 r1 k1 => by
    cases b with
    | true => rw [if_pos rfl]; exact (Sat.pure.mp k) H1 G1 fs1 r1 k1
    | false => rw [if_neg Bool.false_ne_true]; exact ⟨Pn, G0, Fr, Γ1, Ts, G1, fs1, Ex, r1, ex, k.imp fun c Γ2 k H2 G2 fs2 r2 k2 => k H2 G2 fs2 r2 (k1.trans k2)⟩⟩
theorem tw_and1 {a : Expr} {t : TT} {pos : Pos} (h : PT X a t) : PW X (.BoolOp .And [a] pos) t := pw_and1 h
theorem tw_or1 {a : Expr} {t : TT} {pos : Pos} (h : PT X a t) : PW X (.BoolOp .Or [a] pos) t := pw_or1 h
/-! .. as values -/
def pAnd (p q : PM D) : PM D := fun Γ => match p Γ with
  | some (.bl true) => q Γ
  | some (.bl false) => some (.bl false)
  | _ => none
def pOr (p q : PM D) : PM D := fun Γ => match p Γ with
  | some (.bl false) => q Γ
  | some (.bl true) => some (.bl true)
  | _ => none
def pNot (p : PM D) : PM D := fun Γ => match p Γ with
  | some (.bl b) => some (.bl (!b))
  | _ => none
def mAnd (m n : M D) : M D := do
  let d ← m
  match d with
  | .bl true => n
  | .bl false => pure (.bl false)
  | _ => mNever
def mOr (m n : M D) : M D := do
  let d ← m
  match d with
  | .bl false => n
  | .bl true => pure (.bl true)
  | _ => mNever
def mNot (m : M D) : M D := do
  let d ← m
  match d with
  | .bl b => pure (.bl (!b))
  | _ => mNever
theorem tp_and {a b : Expr} {rest : List Expr} {p q : PM D} {pos : Pos} (ha : PE X a (TP X.K cl p)) (hb : PE X (.BoolOp .And (b :: rest) pos) (TP X.K cl q)) : PE X (.BoolOp .And (a :: b :: rest) pos) (TP X.K cl (pAnd p q)) :=
  (pe_and ha hb).weak fun σ H Q ⟨Pn, G0, Fr, Γ, Ts, G, fs, r, c, hc, k⟩ => by
    unfold pAnd at hc
    split at hc
    · rename_i hp
      exact ⟨Pn, G0, Fr, Γ, Ts, G, fs, r, _, hp, fun v f o => by obtain ⟨rfl, _⟩ := o; exact ⟨true, rfl, by rw [if_pos rfl]; exact ⟨Pn, G0, Fr, Γ, Ts, G, fs, r, c, hc, k⟩⟩⟩
    · rename_i hp
      cases hc
      exact ⟨Pn, G0, Fr, Γ, Ts, G, fs, r, _, hp, fun v f o => by obtain ⟨rfl, _⟩ := o; exact ⟨false, rfl, by rw [if_neg Bool.false_ne_true]; exact k _ [] ⟨rfl, rfl⟩⟩⟩
    · cases hc
theorem tp_or {a b : Expr} {rest : List Expr} {p q : PM D} {pos : Pos} (ha : PE X a (TP X.K cl p)) (hb : PE X (.BoolOp .Or (b :: rest) pos) (TP X.K cl q)) : PE X (.BoolOp .Or (a :: b :: rest) pos) (TP X.K cl (pOr p q)) :=
  (pe_or ha hb).weak fun σ H Q ⟨Pn, G0, Fr, Γ, Ts, G, fs, r, c, hc, k⟩ => by
    unfold pOr at hc
    split at hc
    · rename_i hp
      exact ⟨Pn, G0, Fr, Γ, Ts, G, fs, r, _, hp, fun v f o => by obtain ⟨rfl, _⟩ := o; exact ⟨false, rfl, by rw [if_neg Bool.false_ne_true]; exact ⟨Pn, G0, Fr, Γ, Ts, G, fs, r, c, hc, k⟩⟩⟩
    · rename_i hp
      cases hc
      exact ⟨Pn, G0, Fr, Γ, Ts, G, fs, r, _, hp, fun v f o => by obtain ⟨rfl, _⟩ := o; exact ⟨true, rfl, by rw [if_pos rfl]; exact k _ [] ⟨rfl, rfl⟩⟩⟩
    · cases hc
theorem tp_not {a : Expr} {p : PM D} {pos : Pos} (ha : PE X a (TP X.K cl p)) : PE X (.UnaryOp .Not a pos) (TP X.K cl (pNot p)) :=
  (pe_not ha).weak fun σ H Q ⟨Pn, G0, Fr, Γ, Ts, G, fs, r, c, hc, k⟩ => by
    unfold pNot at hc
    split at hc
    · rename_i b hp
      cases hc
      exact ⟨Pn, G0, Fr, Γ, Ts, G, fs, r, _, hp, fun v f o => by obtain ⟨rfl, _⟩ := o; exact ⟨b, rfl, k _ [] ⟨rfl, rfl⟩⟩⟩
    · cases hc
theorem tx_and {a b : Expr} {rest : List Expr} {m n : M D} {W : List Nat} {pos : Pos} (ha : PE X a (TX X.K cl E W m)) (hb : PE X (.BoolOp .And (b :: rest) pos) (TX X.K cl E W n)) : PE X (.BoolOp .And (a :: b :: rest) pos) (TX X.K cl E W (mAnd m n)) :=
  (pe_and ha hb).weak fun σ H Q ⟨Pn, G0, Fr, Γ, Ts, G, fs, Ex, r, ex, q⟩ => ⟨Pn, G0, Fr, Γ, Ts, G, fs, Ex, r, ex, (Sat.bind.mp q).imp fun d Γ1 k v H1 G1 fs1 r1 k1 => by
    split at k
    · obtain ⟨_, rfl, _⟩ := r1.top
      exact ⟨true, rfl, by rw [if_pos rfl]; exact ⟨Pn, G0, Fr, Γ1, Ts, G1, fs1, Ex, r1.drop1, ex, k.imp fun c Γ2 k v2 H2 G2 fs2 r2 k2 => k v2 H2 G2 fs2 r2 (k1.trans k2)⟩⟩
    · obtain ⟨_, rfl, _⟩ := r1.top
      exact ⟨false, rfl, by rw [if_neg Bool.false_ne_true]; exact (Sat.pure.mp k) _ H1 G1 fs1 r1 k1⟩
    · exact k.elim⟩
theorem tx_or {a b : Expr} {rest : List Expr} {m n : M D} {W : List Nat} {pos : Pos} (ha : PE X a (TX X.K cl E W m)) (hb : PE X (.BoolOp .Or (b :: rest) pos) (TX X.K cl E W n)) : PE X (.BoolOp .Or (a :: b :: rest) pos) (TX X.K cl E W (mOr m n)) :=
  (pe_or ha hb).weak fun σ H Q ⟨Pn, G0, Fr, Γ, Ts, G, fs, Ex, r, ex, q⟩ => ⟨Pn, G0, Fr, Γ, Ts, G, fs, Ex, r, ex, (Sat.bind.mp q).imp fun d Γ1 k v H1 G1 fs1 r1 k1 => by
    split at k
    · obtain ⟨_, rfl, _⟩ := r1.top
      exact ⟨false, rfl, by rw [if_neg Bool.false_ne_true]; exact ⟨Pn, G0, Fr, Γ1, Ts, G1, fs1, Ex, r1.drop1, ex, k.imp fun c Γ2 k v2 H2 G2 fs2 r2 k2 => k v2 H2 G2 fs2 r2 (k1.trans k2)⟩⟩
    · obtain ⟨_, rfl, _⟩ := r1.top
      exact ⟨true, rfl, by rw [if_pos rfl]; exact (Sat.pure.mp k) _ H1 G1 fs1 r1 k1⟩
    · exact k.elim⟩
theorem tx_not {a : Expr} {m : M D} {W : List Nat} {pos : Pos} (ha : PE X a (TX X.K cl E W m)) : PE X (.UnaryOp .Not a pos) (TX X.K cl E W (mNot m)) :=
  (pe_not ha).weak fun σ H Q ⟨Pn, G0, Fr, Γ, Ts, G, fs, Ex, r, ex, q⟩ => ⟨Pn, G0, Fr, Γ, Ts, G, fs, Ex, r, ex, (Sat.bind.mp q).imp fun d Γ1 k v H1 G1 fs1 r1 k1 => by
    split at k
    · rename_i b
      obtain ⟨_, rfl, _⟩ := r1.top
      exact ⟨b, rfl, (Sat.pure.mp k) _ H1 G1 fs1 (r1.drop1.push ⟨rfl, rfl⟩) k1⟩
    · exact k.elim⟩
theorem tp_one {op : BoolOp} {a : Expr} {t : TE} {pos : Pos} (h : PE X a t) : PE X (.BoolOp op [a] pos) t := pe_one h
/-! a if t else b -/
def pIf (t : PM Bool) (p q : PM D) : PM D := fun Γ => match t Γ with
  | some true => p Γ
  | some false => q Γ
  | none => none
def mIfE (t : M Bool) (m n : M D) : M D := do let b ← t; if b then m else n
theorem tp_if {c a b : Expr} {t : PM Bool} {p q : PM D} {pos : Pos} (hc : PT X c (TTP X.K cl t)) (ha : PE X a (TP X.K cl p)) (hb : PE X b (TP X.K cl q)) : PE X (.IfExp c a b pos) (TP X.K cl (pIf t p q)) :=
  (pe_ifExp hc ha hb).weak fun σ H Q ⟨Pn, G0, Fr, Γ, Ts, G, fs, r, z, hz, k⟩ => by
    unfold pIf at hz
    split at hz
    · rename_i h; exact ⟨Pn, G0, Fr, Γ, Ts, G, fs, r, true, h, by simp only [if_true]; exact ⟨Pn, G0, Fr, Γ, Ts, G, fs, r, z, hz, k⟩⟩
    · rename_i h; exact ⟨Pn, G0, Fr, Γ, Ts, G, fs, r, false, h, by simp only [Bool.false_eq_true, if_false]; exact ⟨Pn, G0, Fr, Γ, Ts, G, fs, r, z, hz, k⟩⟩
    · cases hz
theorem tx_if {c a b : Expr} {t : M Bool} {m n : M D} {W : List Nat} {pos : Pos} (hc : PT X c (TTX X.K cl E W t)) (ha : PE X a (TX X.K cl E W m)) (hb : PE X b (TX X.K cl E W n)) : PE X (.IfExp c a b pos) (TX X.K cl E W (mIfE t m n)) :=
  (pe_ifExp hc ha hb).weak fun σ H Q ⟨Pn, G0, Fr, Γ, Ts, G, fs, Ex, r, ex, q⟩ => ⟨Pn, G0, Fr, Γ, Ts, G, fs, Ex, r, ex, (Sat.bind.mp q).imp fun b Γ1 k H1 G1 fs1 r1 k1 => by
    cases b with
    | true => rw [if_pos rfl]; exact ⟨Pn, G0, Fr, Γ1, Ts, G1, fs1, Ex, r1, ex, k.imp fun c Γ2 k v2 H2 G2 fs2 r2 k2 => k v2 H2 G2 fs2 r2 (k1.trans k2)⟩
    | false => rw [if_neg Bool.false_ne_true]; exact ⟨Pn, G0, Fr, Γ1, Ts, G1, fs1, Ex, r1, ex, k.imp fun c Γ2 k v2 H2 G2 fs2 r2 k2 => k v2 H2 G2 fs2 r2 (k1.trans k2)⟩⟩
/-! a op b op' c -/
def pChain (g g' : D → D → Option D) (p q w : PM D) : PM D := fun Γ => match p Γ, q Γ with
  | some d, some e => match g d e with
    | some (.bl true) => (match w Γ with
      | some f => g' e f
      | none => none)
    | some (.bl false) => some (.bl false)
    | _ => none
  | _, _ => none
theorem tchain_of {g g' : D → D → Option D} {p q w : PM D} {K : PySem.W.Frag} {σ : L2.St} {H : Hp} {Q : VK} (h : TP K cl (pChain g g' p q w) σ H Q) : tChain (rS K cl g) (rS K cl g') (TP K cl p) (TP K cl q) (TP K cl w) σ H Q := by
  obtain ⟨Pn, G0, Fr, Γ, Ts, G, fs, r, z, hz, k⟩ := h
  unfold pChain at hz
  split at hz
  · rename_i d e h1 h2
    refine ⟨Pn, G0, Fr, Γ, Ts, G, fs, r, d, h1, fun x fx ox => ⟨Pn, G0, Fr, Γ, Ts, G, fs, r, e, h2, fun y fy oy => ?_⟩⟩
    split at hz
    · rename_i hg
      split at hz
      · rename_i f h3
        exact ⟨G, d, e, _, fx, fy, r.sub, r.tg, ox, oy, hg, fun u fu ou => by
          obtain ⟨rfl, _⟩ := ou
          exact ⟨true, rfl, by rw [if_pos rfl]; exact ⟨Pn, G0, Fr, Γ, Ts, G, fs, r, f, h3, fun v fv ov => ⟨G, e, f, z, fy, fv, r.sub, r.tg, oy, ov, hz, k⟩⟩⟩⟩
      · cases hz
    · rename_i hg
      cases hz
      exact ⟨G, d, e, _, fx, fy, r.sub, r.tg, ox, oy, hg, fun u fu ou => by
        obtain ⟨rfl, _⟩ := ou
        exact ⟨false, rfl, by rw [if_neg Bool.false_ne_true]; exact k _ [] ⟨rfl, rfl⟩⟩⟩
    · cases hz
  · cases hz
theorem tp_chain {op op' : CmpOp} {a b c : Expr} {g g' : D → D → Option D} {p q w : PM D} {pos : Pos} (h : OpS X cl (compareOp op) g) (h' : OpS X cl (compareOp op') g') (ha : PE X a (TP X.K cl p)) (hb : PE X b (TP X.K cl q)) (hc : PE X c (TP X.K cl w)) (hm : lastMarks [op, op'] [b, c] = false) :
    PE X (.Compare a [op, op'] [b, c] pos) (TP X.K cl (pChain g g' p q w)) := (pe_chain h.opR h'.opR ha hb hc hm).weak fun σ H Q t => tchain_of t
theorem tt_chain {op op' : CmpOp} {a b c : Expr} {g g' : D → D → Option D} {p q w : PM D} {pos : Pos} (h : OpS X cl (compareOp op) g) (h' : OpS X cl (compareOp op') g') (ha : PE X a (TP X.K cl p)) (hb : PE X b (TP X.K cl q)) (hc : PE X c (TP X.K cl w)) (hm : lastMarks [op, op'] [b, c] = false) :
    PT X (.Compare a [op, op'] [b, c] pos) (TTP X.K cl (pBl (pChain g g' p q w))) := by
  refine (pt_chain h.opR h'.opR ha hb hc hm).weak fun σ H Q ⟨Pn, G0, Fr, Γ, Ts, G, fs, r, z, hz, k⟩ => ?_
  unfold pBl at hz
  cases hp : pChain g g' p q w Γ with
  | none => rw [hp] at hz; cases hz
  | some d =>
    rw [hp] at hz
    refine tchain_of ⟨Pn, G0, Fr, Γ, Ts, G, fs, r, d, hp, fun v f o => ?_⟩
    cases d with
    | bl b => cases hz; obtain ⟨rfl, _⟩ := o; exact ⟨z, rfl, k⟩
    | _ => cases hz
/-! ### calls of what is built in -/
def pCall (g : List D → Option D) (q : PM (List D)) : PM D := fun Γ => match q Γ with
  | some ds => g ds
  | none => none
def mCallS (g : List D → Option D) (n : M (List D)) : M D := do
  let ds ← n
  match g ds with
  | some z => if cln z then pure z else mNever
  | none => mNever
def mCallA (g : List D → Option D) (n : M (List D)) : M D := do let ds ← n; mO (g ds)
theorem tcb_P {g : List D → Option D} {q : PM (List D)} {K : PySem.W.Frag} {σ : L2.St} {H : Hp} {Q : VK} (h : TP K cl (pCall g q) σ H Q) : tCB (rcS K cl g) (TAP K cl q) σ H Q := by
  obtain ⟨Pn, G0, Fr, Γ, Ts, G, fs, r, z, hz, k⟩ := h
  unfold pCall at hz
  cases hq : q Γ with
  | none => rw [hq] at hz; cases hz
  | some ds =>
    rw [hq] at hz
    exact ⟨Pn, G0, Fr, Γ, Ts, G, fs, r, ds, hq, fun vs ea => ⟨G, ds, z, r.sub, r.tg, ea, hz, k⟩⟩
theorem tcb_S {g : List D → Option D} {n : M (List D)} {W : List Nat} {K : PySem.W.Frag} {σ : L2.St} {H : Hp} {Q : VK} (h : TX K cl E W (mCallS g n) σ H Q) : tCB (rcS K cl g) (TAX K cl E W n) σ H Q := by
  obtain ⟨Pn, G0, Fr, Γ, Ts, G, fs, Ex, r, ex, q⟩ := h
  refine ⟨Pn, G0, Fr, Γ, Ts, G, fs, Ex, r, ex, (Sat.bind.mp q).imp fun ds Γ1 k vs Us H1 G1 fs1 r1 k1 ea => ?_⟩
  split at k
  · rename_i z hz
    split at k
    · rename_i hc
      exact ⟨G1, ds, z, r1.sub, r1.tg, ea, hz, fun w fw ow => (Sat.pure.mp k) w H1 G1 fs1 (r1.drop.push (ow.of_clean hc)) k1⟩
    · exact k.elim
  · exact k.elim
theorem tcb_A {g : List D → Option D} {n : M (List D)} {W : List Nat} {K : PySem.W.Frag} {σ : L2.St} {H : Hp} {Q : VK} (h : TX K cl E W (mCallA g n) σ H Q) : tCB (rcA K cl g) (TAX K cl E W n) σ H Q := by
  obtain ⟨Pn, G0, Fr, Γ, Ts, G, fs, Ex, r, ex, q⟩ := h
  refine ⟨Pn, G0, Fr, Γ, Ts, G, fs, Ex, r, ex, (Sat.bind.mp q).imp fun ds Γ1 k vs Us H1 G1 fs1 r1 k1 ea => ?_⟩
  obtain ⟨z, hz, k⟩ := Sat.mO.mp k
  exact ⟨G1, ds, z, r1.sub, r1.tg, ea, hz, fun hc w fw ow => k w H1 G1 fs1 (r1.drop.push (ow.of_clean hc)) k1, fun p o hp nw => by
    obtain ⟨G2, r2, k2⟩ := r1.drop.new hp nw
    exact k _ _ G2 fs1 r2 (k1.trans (k2.mono fun j z => nomatch z))⟩
section
variable {x : Str} {id : String} {T : String} {g : List D → Option D} {q : PM (List D)} {n : M (List D)} {W : List Nat} {e : Expr} {es : List Expr} {p pos : Pos}
theorem tp_callB (hc : ClS X cl (.builtin id) g) (hg : Gl X x) (hm : X.mg x = none) (hv : bootBuiltins x = some (.builtin id)) (ha : PA X (e :: es) (TAP X.K cl q)) (hn : x ≠ "__name__") (hdb : (x == ("__debug__" : Str)) = false) (he : starEach (e :: es) X.env = (false, eval e X.env) :: starEach es X.env) (hpl : (backTo pos (starEach es X.env)).any (·.1) = false) :
    PE X (.Call (.Name x p) (e :: es) [] pos) (TP X.K cl (pCall g q)) := (pe_callB hc.cR hg hm hv ha hn hdb he hpl).weak fun σ H Q t => tcb_P t
theorem tx_callBS (hc : ClS X cl (.builtin id) g) (hg : Gl X x) (hm : X.mg x = none) (hv : bootBuiltins x = some (.builtin id)) (ha : PA X (e :: es) (TAX X.K cl E W n)) (hn : x ≠ "__name__") (hdb : (x == ("__debug__" : Str)) = false) (he : starEach (e :: es) X.env = (false, eval e X.env) :: starEach es X.env) (hpl : (backTo pos (starEach es X.env)).any (·.1) = false) :
    PE X (.Call (.Name x p) (e :: es) [] pos) (TX X.K cl E W (mCallS g n)) := (pe_callB hc.cR hg hm hv ha hn hdb he hpl).weak fun σ H Q t => tcb_S t
theorem tx_callBA (hc : ClA X cl (.builtin id) g) (hg : Gl X x) (hm : X.mg x = none) (hv : bootBuiltins x = some (.builtin id)) (ha : PA X (e :: es) (TAX X.K cl E W n)) (hn : x ≠ "__name__") (hdb : (x == ("__debug__" : Str)) = false) (he : starEach (e :: es) X.env = (false, eval e X.env) :: starEach es X.env) (hpl : (backTo pos (starEach es X.env)).any (·.1) = false) :
    PE X (.Call (.Name x p) (e :: es) [] pos) (TX X.K cl E W (mCallA g n)) := (pe_callB hc.cR hg hm hv ha hn hdb he hpl).weak fun σ H Q t => tcb_A t
theorem tp_callTy (hc : ClS X cl (.type T) g) (hg : Gl X x) (hm : X.mg x = none) (hv : bootBuiltins x = some (.type T)) (ha : PA X (e :: es) (TAP X.K cl q)) (hn : x ≠ "__name__") (hdb : (x == ("__debug__" : Str)) = false) (he : starEach (e :: es) X.env = (false, eval e X.env) :: starEach es X.env) (hpl : (backTo pos (starEach es X.env)).any (·.1) = false) :
    PE X (.Call (.Name x p) (e :: es) [] pos) (TP X.K cl (pCall g q)) := (pe_callTy hc.cR hg hm hv ha hn hdb he hpl).weak fun σ H Q t => tcb_P t
theorem tx_callTyS (hc : ClS X cl (.type T) g) (hg : Gl X x) (hm : X.mg x = none) (hv : bootBuiltins x = some (.type T)) (ha : PA X (e :: es) (TAX X.K cl E W n)) (hn : x ≠ "__name__") (hdb : (x == ("__debug__" : Str)) = false) (he : starEach (e :: es) X.env = (false, eval e X.env) :: starEach es X.env) (hpl : (backTo pos (starEach es X.env)).any (·.1) = false) :
    PE X (.Call (.Name x p) (e :: es) [] pos) (TX X.K cl E W (mCallS g n)) := (pe_callTy hc.cR hg hm hv ha hn hdb he hpl).weak fun σ H Q t => tcb_S t
theorem tx_callTyA (hc : ClA X cl (.type T) g) (hg : Gl X x) (hm : X.mg x = none) (hv : bootBuiltins x = some (.type T)) (ha : PA X (e :: es) (TAX X.K cl E W n)) (hn : x ≠ "__name__") (hdb : (x == ("__debug__" : Str)) = false) (he : starEach (e :: es) X.env = (false, eval e X.env) :: starEach es X.env) (hpl : (backTo pos (starEach es X.env)).any (·.1) = false) :
    PE X (.Call (.Name x p) (e :: es) [] pos) (TX X.K cl E W (mCallA g n)) := (pe_callTy hc.cR hg hm hv ha hn hdb he hpl).weak fun σ H Q t => tcb_A t
end
end
end PX

namespace PX
open PySem PySem.Spec PyProof.Rows L2
section
variable {cl : Clss} {E : Wt} {X : Cx}
/-! ### ints -/
abbrev addI : D → D → Option D := iiI (fun _ _ => true) fun i j => i + j
abbrev subI : D → D → Option D := iiI (fun _ _ => true) fun i j => i - j
def cMul (i j : Int) : Bool := decide ((-(2 ^ 64) < i ∧ i < 2 ^ 64) ∨ (-(2 ^ 64) < j ∧ j < 2 ^ 64))
abbrev mulI : D → D → Option D := iiI cMul fun i j => i * j
abbrev divI : D → D → Option D := iiI (fun _ j => decide (0 < j ∧ j < 1073741824)) fun i j => i / j
abbrev modI : D → D → Option D := iiI (fun _ j => decide (0 < j)) fun i j => i % j
abbrev powI : D → D → Option D := iiI (fun i j => decide (0 ≤ j ∧ j ≤ 1000000 ∧ i.natAbs < 2 ^ 64)) fun i j => i ^ j.toNat
theorem os_add : OpS X cl (binaryOp .Add) addI := ops_iiI0 op_add
theorem os_sub : OpS X cl (binaryOp .Sub) subI := ops_iiI0 op_sub
theorem os_mul : OpS X cl (binaryOp .Mult) mulI := ops_iiI op_mul fun i j h => by unfold cMul at h; have h2 := of_decide_eq_true h; exact h2
theorem os_div : OpS X cl (binaryOp .FloorDiv) divI := ops_iiI op_fdiv fun i j h => by have h2 := of_decide_eq_true h; exact h2
theorem os_mod : OpS X cl (binaryOp .Mod) modI := ops_iiI op_mod fun i j h => of_decide_eq_true h
theorem os_pow : OpS X cl (binaryOp .Pow) powI := ops_iiI op_pow fun i j h => by have h2 := of_decide_eq_true h; exact h2
abbrev ltI : D → D → Option D := iiB fun i j => decide (i < j)
abbrev leI : D → D → Option D := iiB fun i j => decide (i ≤ j)
abbrev gtI : D → D → Option D := iiB fun i j => decide (j < i)
abbrev geI : D → D → Option D := iiB fun i j => decide (j ≤ i)
theorem os_lt : OpS X cl (compareOp .Lt) ltI := ops_iiB op_lt
theorem os_le : OpS X cl (compareOp .LtE) leI := ops_iiB op_le
theorem os_gt : OpS X cl (compareOp .Gt) gtI := ops_iiB op_gt
theorem os_ge : OpS X cl (compareOp .GtE) geI := ops_iiB op_ge
/-! ### + of ints, texts, lists, tuples -/
def tupD : D → Option (List D)
  | .tup ds => some ds
  | .ktp ds => some ds
  | _ => none
def addX (d e : D) : Option D := match d, e with
  | .int i, .int j => some (.int (i + j))
  | .str s, .str t => if s.length + t.length ≤ sizeLine then some (.str (s ++ t)) else none
  | .lst _ xs, .lst _ ys => if xs.length + ys.length ≤ sizeLine ∧ clns xs = true ∧ clns ys = true then some (.lst true (xs ++ ys)) else none
  | d, e => match tupD d, tupD e with
    | some xs, some ys => if xs.length + ys.length ≤ sizeLine ∧ clns xs = true ∧ clns ys = true then (if xs = [] then some e else if ys = [] then some d else some (.tup (xs ++ ys))) else none
    | _, _ => none
theorem Own.lstH {K : PySem.W.Frag} {G H : Hp} (sb : Sub G H) {o : Bool} {ds : List D} {v : V} {f : List Addr} (h : Own K cl G H (.lst o ds) v f) : ∃ a xs g, v = .ref a ∧ H a = some (.lst xs) ∧ Owns K cl G H ds xs g := by
  cases o with
  | true => obtain ⟨a, xs, g, rfl, e, _, rfl, ow⟩ := h; exact ⟨a, xs, g, rfl, e, ow⟩
  | false => obtain ⟨a, xs, rfl, e, ow⟩ := h; exact ⟨a, xs, f, rfl, sb _ _ e, ow⟩
theorem Own.tupH {K : PySem.W.Frag} {G H : Hp} (sb : Sub G H) {d : D} {ds : List D} {v : V} {f : List Addr} (hd : tupD d = some ds) (h : Own K cl G H d v f) : ∃ a xs g, v = .ref a ∧ SqT K H a xs ∧ Owns K cl G H ds xs g := by
  cases d with
  | tup es => cases hd; obtain ⟨a, xs, rfl, e, ow⟩ := h; exact ⟨a, xs, f, rfl, .inl (.inl (sb _ _ e)), ow⟩
  | ktp es => cases hd; obtain ⟨a, xs, rfl, e, ow⟩ := h; exact ⟨a, xs, f, rfl, sb.seqT e, ow⟩
  | _ => cases hd
theorem tupD_cln {d : D} {ds : List D} (h : tupD d = some ds) : cln d = clns ds := by
  cases d with
  | tup es => cases h; rfl
  | ktp es => cases h; rfl
  | _ => cases h
theorem oa_add : OpA X cl (binaryOp .Add) addX := by
  intro pins s σ H G x y v u d e z fx fy Q I rx ry sb tg ox oy eg qo qn
  have tup : ∀ xs ys, tupD d = some xs → tupD e = some ys → (if xs.length + ys.length ≤ sizeLine ∧ clns xs = true ∧ clns ys = true then (if xs = [] then some e else if ys = [] then some d else some (.tup (xs ++ ys))) else none) = some z → wpAny (model X.prog X.w) X.A (binaryOp .Add v u) (EP X pins σ Q) X.xe s := fun xs ys h1 h2 eg => by
    split at eg
    · rename_i hz
      obtain ⟨a, vs, g1, rfl, q1, w1⟩ := ox.tupH sb h1
      obtain ⟨b, us, g2, rfl, q2, w2⟩ := oy.tupH sb h2
      have n1 : xs = [] ↔ vs = [] := by have := w1.length; cases xs <;> cases vs <;> simp at this ⊢
      have n2 : ys = [] ↔ us = [] := by have := w2.length; cases ys <;> cases us <;> simp at this ⊢
      refine op_catA pins s σ H _ _ v u Q I rx ry ⟨a, b, vs, us, rfl, rfl, q1, q2, by rw [← w1.length, ← w2.length]; exact hz.1, fun e1 => ?_, fun e1 e2 => ?_, fun e1 e2 p hp => ?_⟩
      · rw [if_pos (n1.mpr e1)] at eg
        cases eg
        exact qo (by rw [tupD_cln h2]; exact hz.2.2) _ fy oy
      · rw [if_neg fun z => e1 (n1.mp z), if_pos (n2.mpr e2)] at eg
        cases eg
        exact qo (by rw [tupD_cln h1]; exact hz.2.1) _ fx ox
      · rw [if_neg fun z => e1 (n1.mp z), if_neg fun z => e2 (n2.mp z)] at eg
        cases eg
        exact qn p _ hp ⟨vs ++ us, rfl, (w1.of_clean hz.2.1).append (w2.of_clean hz.2.2)⟩
    · cases eg
  unfold addX at eg
  split at eg
  · cases eg
    obtain ⟨rfl, _⟩ := ox
    obtain ⟨rfl, _⟩ := oy
    exact op_add pins s σ H _ _ v u Q I rx ry ⟨_, _, rfl, rfl, qo rfl _ [] ⟨rfl, rfl⟩⟩
  · split at eg
    · rename_i hz
      cases eg
      obtain ⟨rfl, _⟩ := ox
      obtain ⟨rfl, _⟩ := oy
      exact op_add_str pins s σ H _ _ v u Q I rx ry ⟨_, _, rfl, rfl, hz, qo rfl _ [] ⟨rfl, rfl⟩⟩
    · cases eg
  · split at eg
    · rename_i hz
      cases eg
      obtain ⟨a, vs, g1, rfl, q1, w1⟩ := ox.lstH sb
      obtain ⟨b, us, g2, rfl, q2, w2⟩ := oy.lstH sb
      exact op_cat pins s σ H _ _ v u Q I rx ry ⟨a, b, vs, us, rfl, rfl, q1, q2, by rw [← w1.length, ← w2.length]; exact hz.1, fun p hp => qn p _ hp ⟨vs ++ us, rfl, (w1.of_clean hz.2.1).append (w2.of_clean hz.2.2)⟩⟩
    · cases eg
  · split at eg
    · rename_i h1 h2
      exact tup _ _ h1 h2 eg
    · cases eg
/-- * of ints; a list times an int -/
def repD (k : Nat) (ds : List D) : List D := (List.replicate k ds).flatten
def mulX (d e : D) : Option D := match d, e with
  | .int i, .int j => mulI (.int i) (.int j)
  | .lst _ xs, .int k => if big k = true ∧ xs.length * k.toNat ≤ sizeLine ∧ clns xs = true then some (.lst true (repD k.toNat xs)) else none
  | _, _ => none
theorem Owns.rep {K : PySem.W.Frag} {G H : Hp} {ds : List D} {xs : List V} (o : Owns K cl G H ds xs []) : ∀ k, Owns K cl G H (repD k ds) (List.replicate k xs).flatten []
  | 0 => ⟨rfl, rfl⟩
  | k + 1 => by
    have h := o.append (Owns.rep o k)
    simpa [repD, List.replicate_succ] using h
theorem oa_mul : OpA X cl (binaryOp .Mult) mulX := by
  intro pins s σ H G x y v u d e z fx fy Q I rx ry sb tg ox oy eg qo qn
  unfold mulX at eg
  split at eg
  · rename_i i j
    have hc : cln z = true := by
      simp only [mulI, iiI] at eg
      split at eg
      · cases eg; rfl
      · cases eg
    exact os_mul pins s σ H G x y v u _ _ z fx fy Q I rx ry sb tg ox oy eg (qo hc)
  · split at eg
    · rename_i xs k hz
      cases eg
      obtain ⟨a, vs, g1, rfl, q1, w1⟩ := ox.lstH sb
      obtain ⟨rfl, _⟩ := oy
      obtain ⟨b1, b2⟩ := big_of hz.1
      exact op_rep pins s σ H _ _ v u Q I rx ry ⟨a, k, vs, rfl, rfl, q1, by omega, by omega, by rw [← w1.length]; exact hz.2.1, fun p hp => qn p _ hp ⟨_, rfl, (w1.of_clean hz.2.2).rep _⟩⟩
    · cases eg
  · cases eg
/-! ### calls -/
def intX : List D → Option D
  | [.int i] => some (.int i)
  | [.bl b] => some (.int (if b then 1 else 0))
  | _ => none
theorem cs_int : ClS X cl (.type "int") intX := by
  intro pins s σ H G xs us ds z Q I r sb tg ea eg q
  unfold intX at eg
  split at eg
  · cases eg
    obtain ⟨v, f, rfl, rfl, _⟩ := ea.one
    exact call_int1 pins s σ H _ us Q I r (.inl ⟨_, rfl, q _ [] ⟨rfl, rfl⟩⟩)
  · cases eg
    obtain ⟨v, f, rfl, rfl, _⟩ := ea.one
    exact call_int1 pins s σ H _ us Q I r (.inr ⟨_, rfl, q _ [] ⟨rfl, rfl⟩⟩)
  · cases eg
def absX : List D → Option D
  | [.int i] => some (.int (if i < 0 then -i else i))
  | _ => none
theorem cs_abs : ClS X cl (.builtin "abs") absX := by
  intro pins s σ H G xs us ds z Q I r sb tg ea eg q
  unfold absX at eg
  split at eg
  · cases eg
    obtain ⟨v, f, rfl, rfl, _⟩ := ea.one
    exact call_abs pins s σ H _ us Q I r ⟨_, rfl, q _ [] ⟨rfl, rfl⟩⟩
  · cases eg
/-- ints, bools of a list -/
def intsD : List D → Option (List Int)
  | [] => some []
  | .int i :: ds => (intsD ds).map (i :: ·)
  | _ => none
def blsD : List D → Option (List Bool)
  | [] => some []
  | .bl i :: ds => (blsD ds).map (i :: ·)
  | _ => none
theorem intsD_some : ∀ {ds : List D} {ns : List Int}, intsD ds = some ns → ds = ns.map .int
  | [], ns, h => by cases h; rfl
  | d :: ds, ns, h => by
    cases d with
    | int i =>
      simp only [intsD] at h
      obtain ⟨ms, h1, rfl⟩ := Option.map_eq_some_iff.mp h
      rw [intsD_some h1]; rfl
    | _ => cases h
theorem blsD_some : ∀ {ds : List D} {ns : List Bool}, blsD ds = some ns → ds = ns.map .bl
  | [], ns, h => by cases h; rfl
  | d :: ds, ns, h => by
    cases d with
    | bl i =>
      simp only [blsD] at h
      obtain ⟨ms, h1, rfl⟩ := Option.map_eq_some_iff.mp h
      rw [blsD_some h1]; rfl
    | _ => cases h
theorem intsD_map : ∀ ns : List Int, intsD (ns.map .int) = some ns
  | [] => rfl
  | n :: ns => by simp only [List.map_cons, intsD, intsD_map ns]; rfl
theorem blsD_map : ∀ ns : List Bool, blsD (ns.map .bl) = some ns
  | [] => rfl
  | n :: ns => by simp only [List.map_cons, blsD, blsD_map ns]; rfl
theorem Owns.ints {K : PySem.W.Frag} {G H : Hp} : ∀ {ns : List Int} {xs : List V} {f : List Addr}, Owns K cl G H (ns.map .int) xs f → xs = ns.map .int
  | [], _, _, h => h.1
  | n :: ns, _, _, h => by
    obtain ⟨x, r, f1, f2, rfl, _, ⟨rfl, _⟩, h2⟩ := h
    rw [Owns.ints h2]; rfl
theorem Owns.bls {K : PySem.W.Frag} {G H : Hp} : ∀ {ns : List Bool} {xs : List V} {f : List Addr}, Owns K cl G H (ns.map .bl) xs f → xs = ns.map .bl
  | [], _, _, h => h.1
  | n :: ns, _, _, h => by
    obtain ⟨x, r, f1, f2, rfl, _, ⟨rfl, _⟩, h2⟩ := h
    rw [Owns.bls h2]; rfl
def lstD : D → Option (List D)
  | .lst _ ds => some ds
  | .klst ds => some ds
  | _ => none
theorem Own.lstS {K : PySem.W.Frag} {G H : Hp} (sb : Sub G H) {d : D} {ds : List D} {v : V} {f : List Addr} (hd : lstD d = some ds) (h : Own K cl G H d v f) : ∃ a xs g, v = .ref a ∧ SqL K H a xs ∧ Owns K cl G H ds xs g := by
  cases d with
  | lst o es => cases hd; obtain ⟨a, xs, g, rfl, e, ow⟩ := h.lstH sb; exact ⟨a, xs, g, rfl, .inl (.inl e), ow⟩
  | klst es => cases hd; obtain ⟨a, xs, rfl, e, ow⟩ := h; exact ⟨a, xs, f, rfl, sb.seqL e, ow⟩
  | _ => cases hd
def maxI (i j : Int) : Int := if j > i then j else i
def minI (i j : Int) : Int := if j < i then j else i
def maxX : List D → Option D
  | [.int i, .int j] => some (.int (maxI i j))
  | [d] => match lstD d with
    | some es => match intsD es with
      | some (n :: ns) => some (.int (ns.foldl max n))
      | _ => none
    | none => none
  | _ => none
def minX : List D → Option D
  | [.int i, .int j] => some (.int (minI i j))
  | [d] => match lstD d with
    | some es => match intsD es with
      | some (n :: ns) => some (.int (ns.foldl min n))
      | _ => none
    | none => none
  | _ => none
theorem foldl_max : ∀ (ns : List Int) (n : Int), ns.foldl max n ∈ n :: ns ∧ ∀ y ∈ n :: ns, y ≤ ns.foldl max n
  | [], n => ⟨.head _, fun y m => by rw [List.mem_singleton.mp m]; exact Int.le_refl _⟩
  | m :: ns, n => by
    obtain ⟨h1, h2⟩ := foldl_max ns (max n m)
    refine ⟨?_, fun y hy => ?_⟩
    · rcases List.mem_cons.mp h1 with h | h
      · simp only [List.foldl_cons]
        rw [h]
        rcases Int.le_total n m with q | q
        · rw [Int.max_eq_right q]; exact .tail _ (.head _)
        · rw [Int.max_eq_left q]; exact .head _
      · exact .tail _ (.tail _ h)
    · simp only [List.foldl_cons]
      have h3 := h2 _ (.head _)
      rcases List.mem_cons.mp hy with rfl | hy
      · omega
      · rcases List.mem_cons.mp hy with rfl | hy
        · omega
        · exact h2 y (.tail _ hy)
theorem foldl_min : ∀ (ns : List Int) (n : Int), ns.foldl min n ∈ n :: ns ∧ ∀ y ∈ n :: ns, ns.foldl min n ≤ y
  | [], n => ⟨.head _, fun y m => by rw [List.mem_singleton.mp m]; exact Int.le_refl _⟩
  | m :: ns, n => by
    obtain ⟨h1, h2⟩ := foldl_min ns (min n m)
    refine ⟨?_, fun y hy => ?_⟩
    · rcases List.mem_cons.mp h1 with h | h
      · simp only [List.foldl_cons]
        rw [h]
        rcases Int.le_total n m with q | q
        · rw [Int.min_eq_left q]; exact .head _
        · rw [Int.min_eq_right q]; exact .tail _ (.head _)
      · exact .tail _ (.tail _ h)
    · simp only [List.foldl_cons]
      have h3 := h2 _ (.head _)
      rcases List.mem_cons.mp hy with rfl | hy
      · omega
      · rcases List.mem_cons.mp hy with rfl | hy
        · omega
        · exact h2 y (.tail _ hy)
theorem cs_max (hc : X.calm = true) : ClS X cl (.builtin "max") maxX := by
  intro pins s σ H G xs us ds z Q I r sb tg ea eg q
  unfold maxX at eg
  split at eg
  · cases eg
    obtain ⟨v, w, f, g, rfl, ⟨rfl, _⟩, rfl, _⟩ := ea.two
    exact call_max2 hc pins s σ H _ us Q I r ⟨_, _, rfl, q _ [] ⟨rfl, rfl⟩⟩
  · split at eg
    · rename_i d _ es hes
      split at eg
      · rename_i n ns hn
        cases eg
        obtain ⟨v, f, rfl, o⟩ := ea.one
        obtain ⟨a, vs, g, rfl, sq, ow⟩ := o.lstS sb hes
        rw [intsD_some hn] at ow
        rw [ow.ints] at sq
        obtain ⟨m1, m2⟩ := foldl_max ns n
        refine cr_max hc pins s σ H _ us Q I r ⟨a, n :: ns, rfl, sq, by simp, fun m hm hle => ?_⟩
        have e : m = ns.foldl max n := Int.le_antisymm (m2 m hm) (hle _ m1)
        rw [e]
        exact q _ [] ⟨rfl, rfl⟩
      · cases eg
    · cases eg
  · cases eg
theorem cs_min (hc : X.calm = true) : ClS X cl (.builtin "min") minX := by
  intro pins s σ H G xs us ds z Q I r sb tg ea eg q
  unfold minX at eg
  split at eg
  · cases eg
    obtain ⟨v, w, f, g, rfl, ⟨rfl, _⟩, rfl, _⟩ := ea.two
    exact call_min2 hc pins s σ H _ us Q I r ⟨_, _, rfl, q _ [] ⟨rfl, rfl⟩⟩
  · split at eg
    · rename_i d _ es hes
      split at eg
      · rename_i n ns hn
        cases eg
        obtain ⟨v, f, rfl, o⟩ := ea.one
        obtain ⟨a, vs, g, rfl, sq, ow⟩ := o.lstS sb hes
        rw [intsD_some hn] at ow
        rw [ow.ints] at sq
        obtain ⟨m1, m2⟩ := foldl_min ns n
        refine cr_min hc pins s σ H _ us Q I r ⟨a, n :: ns, rfl, sq, by simp, fun m hm hle => ?_⟩
        have e : m = ns.foldl min n := Int.le_antisymm (hle _ m1) (m2 m hm)
        rw [e]
        exact q _ [] ⟨rfl, rfl⟩
      · cases eg
    · cases eg
  · cases eg
def sumX : List D → Option D
  | [d] => match lstD d with
    | some es => match intsD es with
      | some ns => some (.int ns.sum)
      | none => none
    | none => none
  | _ => none
theorem cs_sum (hc : X.calm = true) : ClS X cl (.builtin "sum") sumX := by
  intro pins s σ H G xs us ds z Q I r sb tg ea eg q
  unfold sumX at eg
  split at eg
  · split at eg
    · rename_i d es hes
      split at eg
      · rename_i ns hn
        cases eg
        obtain ⟨v, f, rfl, o⟩ := ea.one
        obtain ⟨a, vs, g, rfl, sq, ow⟩ := o.lstS sb hes
        rw [intsD_some hn] at ow
        rw [ow.ints] at sq
        exact cr_sum hc pins s σ H _ us Q I r ⟨a, ns, rfl, sq, q _ [] ⟨rfl, rfl⟩⟩
      · cases eg
    · cases eg
  · cases eg
def boolsX (f : List Bool → Bool) : List D → Option D
  | [d] => match lstD d with
    | some es => match blsD es with
      | some bs => some (.bl (f bs))
      | none => none
    | none => none
  | _ => none
abbrev allX : List D → Option D := boolsX fun bs => bs.all id
abbrev anyX : List D → Option D := boolsX fun bs => bs.any id
theorem cs_all (hc : X.calm = true) : ClS X cl (.builtin "all") allX := by
  intro pins s σ H G xs us ds z Q I r sb tg ea eg q
  unfold allX boolsX at eg
  split at eg
  · split at eg
    · rename_i d es hes
      split at eg
      · rename_i ns hn
        cases eg
        obtain ⟨v, f, rfl, o⟩ := ea.one
        obtain ⟨a, vs, g, rfl, sq, ow⟩ := o.lstS sb hes
        rw [blsD_some hn] at ow
        rw [ow.bls] at sq
        exact cr_all hc pins s σ H _ us Q I r ⟨a, ns, rfl, sq, q _ [] ⟨rfl, rfl⟩⟩
      · cases eg
    · cases eg
  · cases eg
theorem cs_any (hc : X.calm = true) : ClS X cl (.builtin "any") anyX := by
  intro pins s σ H G xs us ds z Q I r sb tg ea eg q
  unfold anyX boolsX at eg
  split at eg
  · split at eg
    · rename_i d es hes
      split at eg
      · rename_i ns hn
        cases eg
        obtain ⟨v, f, rfl, o⟩ := ea.one
        obtain ⟨a, vs, g, rfl, sq, ow⟩ := o.lstS sb hes
        rw [blsD_some hn] at ow
        rw [ow.bls] at sq
        exact cr_any hc pins s σ H _ us Q I r ⟨a, ns, rfl, sq, q _ [] ⟨rfl, rfl⟩⟩
      · cases eg
    · cases eg
  · cases eg
/-! isinstance -/
def tyN : D → Option String
  | .non => some "NoneType"
  | .bl _ => some "bool"
  | .int _ => some "int"
  | .str _ => some "str"
  | .lst _ _ => some "list"
  | .tup _ => some "tuple"
  | .dic true _ _ _ => some "dict"
  | _ => none
def isB (a b : String) : Option Bool :=
  if b = "bool" then (if a = "bool" then some true else if a ∈ ["NoneType", "int", "str", "list", "tuple", "dict"] then some false else none)
  else if b = "int" then (if a = "bool" ∨ a = "int" then some true else if a ∈ ["NoneType", "str", "list", "tuple", "dict"] then some false else none)
  else if b = "str" then (if a = "str" then some true else if a ∈ ["NoneType", "bool", "int", "list", "tuple", "dict"] then some false else none)
  else if b = "list" then (if a = "list" then some true else if a ∈ ["NoneType", "bool", "int", "str", "tuple", "dict"] then some false else none)
  else if b = "tuple" then (if a = "tuple" then some true else if a ∈ ["NoneType", "bool", "int", "str", "list", "dict"] then some false else none)
  else if b = "dict" then (if a = "dict" then some true else if a ∈ ["NoneType", "bool", "int", "str", "list", "tuple"] then some false else none)
  else none
theorem isB_kit {a b : String} {r : Bool} (h : isB a b = some r) : kitB a b = some r := by
  have all : ∀ a ∈ ["NoneType", "bool", "int", "str", "list", "tuple", "dict"], ∀ b ∈ ["bool", "int", "str", "list", "tuple", "dict"], ∀ r, isB a b = some r → kitB a b = some r := by decide +kernel
  have hb : b ∈ ["bool", "int", "str", "list", "tuple", "dict"] := by
    unfold isB at h
    by_cases h1 : b = "bool"; · simp [h1]
    by_cases h2 : b = "int"; · simp [h2]
    by_cases h3 : b = "str"; · simp [h3]
    by_cases h4 : b = "list"; · simp [h4]
    by_cases h5 : b = "tuple"; · simp [h5]
    by_cases h6 : b = "dict"; · simp [h6]
    simp [h1, h2, h3, h4, h5, h6] at h
  have ha : a ∈ ["NoneType", "bool", "int", "str", "list", "tuple", "dict"] := by
    apply Classical.byContradiction
    intro hn
    simp only [List.mem_cons, List.not_mem_nil, or_false, not_or] at hn
    obtain ⟨n1, n2, n3, n4, n5, n6, n7⟩ := hn
    unfold isB at h
    simp [n1, n2, n3, n4, n5, n6, n7] at h
  exact all a ha b hb r h
def isAny (a : String) : List D → Option Bool
  | [] => some false
  | .ty n :: ds => match isB a n, isAny a ds with
    | some b, some c => some (b || c)
    | _, _ => none
  | _ => none
def isiX : List D → Option D
  | [d, .ty n] => match tyN d with
    | some a => (isB a n).map .bl
    | none => none
  | [d, .tup ts] => match tyN d with
    | some a => (isAny a ts).map .bl
    | none => none
  | _ => none
theorem Own.ty {K : PySem.W.Frag} {G H : Hp} (sb : Sub G H) {d : D} {v : V} {f : List Addr} {n : String} (o : Own K cl G H d v f) (h : tyN d = some n) : TyX K H v (.type n) := by
  cases d with
  | non => cases h; obtain ⟨rfl, _⟩ := o; exact .base .non
  | bl b => cases h; obtain ⟨rfl, _⟩ := o; exact .base (.bl b)
  | int i => cases h; obtain ⟨rfl, _⟩ := o; exact .base (.int i)
  | str s => cases h; obtain ⟨rfl, _⟩ := o; exact .base (.str s)
  | lst b ds => cases h; obtain ⟨a, xs, g, rfl, e, _⟩ := o.lstH sb; exact .base (.lst e)
  | tup ds => cases h; obtain ⟨a, xs, rfl, e, _⟩ := o; exact .base (.tup (sb _ _ e))
  | dic b t ks ds =>
    cases b with
    | false => cases h
    | true =>
      cases h
      obtain ⟨a, u, xs, g, rfl, e, _, dk, _⟩ := o
      cases t with
      | false => obtain ⟨kv, rfl, _⟩ := dk; exact .base (.dK e)
      | true => obtain ⟨kv, rfl, _⟩ := dk; exact .base (.dT e)
  | _ => cases h
theorem isAny_kit {K : PySem.W.Frag} {G H : Hp} {a : String} : ∀ {ts : List D} {cs : List V} {f : List Addr} {r : Bool}, Owns K cl G H ts cs f → isAny a ts = some r → ∃ us, Paired ClsV cs us ∧ PySem.W.kitAny K (.type a) us = some r
  | [], _, _, _, o, h => by
    obtain ⟨rfl, _⟩ := o
    cases h
    exact ⟨[], .nil, kitAny_nil⟩
  | t :: ts, _, _, r, o, h => by
    obtain ⟨x, xr, f1, f2, rfl, rfl, h1, h2⟩ := o
    cases t with
    | ty n =>
      obtain ⟨rfl, _⟩ := h1
      simp only [isAny] at h
      split at h
      · rename_i b c hb hc
        cases h
        obtain ⟨us, p, k⟩ := isAny_kit h2 hc
        exact ⟨.type n :: us, .cons (.ty n) p, kitAny_cons (kit_ty (isB_kit hb)) (fun z => by rw [z, Bool.false_or]; exact k) fun z => by rw [z, Bool.true_or]⟩
      · cases h
    | _ => cases h
theorem cs_isinst : ClS X cl (.builtin "isinstance") isiX := by
  intro pins s σ H G xs us ds z Q I r sb tg ea eg q
  unfold isiX at eg
  split at eg
  · split at eg
    · rename_i d n _ a ha
      obtain ⟨b, hb, rfl⟩ := Option.map_eq_some_iff.mp eg
      obtain ⟨v, w, f, g, rfl, o, rfl, _⟩ := ea.two
      exact call_isi pins s σ H _ us Q I r ⟨v, .ty n, _, _, b, rfl, .ty n, o.ty sb ha, kit_ty (isB_kit hb), q _ [] ⟨rfl, rfl⟩⟩
    · cases eg
  · split at eg
    · rename_i d ts _ a ha
      obtain ⟨b, hb, rfl⟩ := Option.map_eq_some_iff.mp eg
      obtain ⟨v, w, f, g, rfl, o, tp, cs, rfl, e, ow⟩ := ea.two
      obtain ⟨ws, p, k⟩ := isAny_kit ow hb
      exact call_isiT pins s σ H _ us Q I r ⟨v, tp, cs, _, ws, b, rfl, sb _ _ e, p, o.ty sb ha, k, q _ [] ⟨rfl, rfl⟩⟩
    · cases eg
  · cases eg
/-! list(..), tuple(..) -/
def listX : List D → Option D
  | [d] => match seqD d with
    | some es => if clns es then some (.lst true es) else none
    | none => none
  | _ => none
theorem ca_list : ClA X cl (.type "list") listX := by
  intro pins s σ H G xs us ds z Q I r sb tg ea eg qo qn
  unfold listX at eg
  split at eg
  · split at eg
    · rename_i d es hes
      split at eg
      · rename_i hc
        cases eg
        obtain ⟨v, f, rfl, o⟩ := ea.one
        obtain ⟨a, vs, g, rfl, sq, ow, _⟩ := o.seq sb hes
        exact call_list_of pins s σ H _ us Q I r ⟨a, vs, rfl, sq, fun p hp => qn p _ hp ⟨vs, rfl, ow.of_clean hc⟩⟩
      · cases eg
    · cases eg
  · cases eg
def tupleX : List D → Option D
  | [.lst _ es] => if clns es then some (.tup es) else none
  | [.klst es] => if clns es then some (.tup es) else none
  | [.tup es] => if clns es then some (.tup es) else none
  | [.ktp es] => if clns es then some (.ktp es) else none
  | _ => none
theorem ca_tuple : ClA X cl (.type "tuple") tupleX := by
  intro pins s σ H G xs us ds z Q I r sb tg ea eg qo qn
  unfold tupleX at eg
  split at eg
  · split at eg
    · rename_i hc
      cases eg
      obtain ⟨v, f, rfl, o⟩ := ea.one
      obtain ⟨a, vs, g, rfl, e, ow⟩ := o.lstH sb
      exact call_tuple_of pins s σ H _ us Q I r ⟨a, vs, rfl, .inl ⟨.inl (.inl e), fun p hp => qn p _ hp ⟨vs, rfl, ow.of_clean hc⟩⟩⟩
    · cases eg
  · split at eg
    · rename_i hc
      cases eg
      obtain ⟨v, f, rfl, a, vs, rfl, e, ow⟩ := ea.one
      exact call_tuple_of pins s σ H _ us Q I r ⟨a, vs, rfl, .inl ⟨sb.seqL e, fun p hp => qn p _ hp ⟨vs, rfl, ow.of_clean hc⟩⟩⟩
    · cases eg
  · split at eg
    · rename_i hc
      cases eg
      obtain ⟨v, f, rfl, o⟩ := ea.one
      obtain ⟨a, vs, rfl, e, ow⟩ := id o
      exact call_tuple_of pins s σ H _ us Q I r ⟨a, vs, rfl, .inr ⟨.inl (.inl (sb _ _ e)), qo hc _ f o⟩⟩
    · cases eg
  · split at eg
    · rename_i hc
      cases eg
      obtain ⟨v, f, rfl, o⟩ := ea.one
      obtain ⟨a, vs, rfl, e, ow⟩ := id o
      exact call_tuple_of pins s σ H _ us Q I r ⟨a, vs, rfl, .inr ⟨sb.seqT e, qo hc _ f o⟩⟩
    · cases eg
  · cases eg
/-! list(range(..)), tuple(range(..)) -/
def rngOk (i j : Int) : Bool := big i && big j && decide ((j - i).toNat ≤ 2 ^ 24)
def lrg1 (t : Bool) (d : D) : Option D := match d with
  | .int j => if rngOk 0 j then some (if t then .tup (rngD 0 (j - 0).toNat) else .lst true (rngD 0 (j - 0).toNat)) else none
  | _ => none
def mLrg1 (t : Bool) (m : M D) : M D := do let d ← m; mO (lrg1 t d)
def lrg2 (t : Bool) (d e : D) : Option D := match d, e with
  | .int i, .int j => if rngOk i j then some (if t then .tup (rngD i (j - i).toNat) else .lst true (rngD i (j - i).toNat)) else none
  | _, _ => none
def mLrg2 (t : Bool) (m n : M D) : M D := do let d ← m; let e ← n; mO (lrg2 t d e)
theorem owns_rng {K : PySem.W.Frag} {G H : Hp} {i j : Int} : Owns K cl G H (rngD i (j - i).toNat) (rgV i j) [] := by
  unfold rngD rgV
  generalize List.range (j - i).toNat = l
  induction l with
  | nil => exact ⟨rfl, rfl⟩
  | cons a l ih => exact ⟨_, _, [], [], rfl, rfl, ⟨rfl, rfl⟩, ih⟩
theorem rngOk_of {i j : Int} (h : rngOk i j = true) : RgOk i j := by
  simp only [rngOk, Bool.and_eq_true, decide_eq_true_eq] at h
  obtain ⟨⟨h1, h2⟩, h3⟩ := h
  obtain ⟨a, b⟩ := big_of h1
  obtain ⟨c, d⟩ := big_of h2
  exact ⟨a, b, c, d, h3⟩
theorem tx_lrg1 {a : Expr} {m : M D} {W : List Nat} {p p2 pos pos2 : Pos} (hc : X.calm = true) (hg : Gl X "list") (hm : X.mg "list" = none) (hg2 : Gl X "range") (hm2 : X.mg "range" = none) (ha : PE X a (TX X.K cl E W m)) (na : starEach [a] X.env = (false, eval a X.env) :: starEach [] X.env)
    (na2 : starEach [.Call (.Name "range" p2) [a] [] pos2] X.env = (false, eval (.Call (.Name "range" p2) [a] [] pos2) X.env) :: starEach [] X.env) : PE X (.Call (.Name "list" p) [.Call (.Name "range" p2) [a] [] pos2] [] pos) (TX X.K cl E W (mLrg1 false m)) := by
  refine (pe_listRg hc hg hm (prg_1 hg2 hm2 ha na) na2).weak fun σ H Q ⟨Pn, G0, Fr, Γ, Ts, G, fs, Ex, r, ex, q⟩ => ?_
  refine ⟨Pn, G0, Fr, Γ, Ts, G, fs, Ex, r, ex, (Sat.bind.mp q).imp fun d Γ1 k v H1 G1 fs1 r1 k1 => ?_⟩
  obtain ⟨z, hz, k⟩ := Sat.mO.mp k
  cases d with
  | int j =>
    simp only [lrg1] at hz
    split at hz
    · rename_i ok
      cases hz
      obtain ⟨_, rfl, _⟩ := r1.top
      refine ⟨j, rfl, rngOk_of ok, fun p hp => ?_⟩
      obtain ⟨G2, r2, k2⟩ := r1.drop1.new (z := .lst true (rngD 0 (j - 0).toNat)) hp ⟨_, rfl, owns_rng⟩
      exact k _ _ G2 fs1 r2 (k1.trans (k2.mono fun j z => nomatch z))
    · cases hz
  | _ => cases hz
theorem tx_lrg2 {a b : Expr} {m n : M D} {W : List Nat} {p p2 pos pos2 : Pos} (hc : X.calm = true) (hg : Gl X "list") (hm : X.mg "list" = none) (hg2 : Gl X "range") (hm2 : X.mg "range" = none) (ha : PE X a (TX X.K cl E W m)) (hb : PE X b (TX X.K cl E W n)) (na : starEach [a, b] X.env = (false, eval a X.env) :: starEach [b] X.env) (nb : starEach [b] X.env = (false, eval b X.env) :: starEach [] X.env)
    (hp : (backTo pos2 (starEach [b] X.env)).any (·.1) = false) (na2 : starEach [.Call (.Name "range" p2) [a, b] [] pos2] X.env = (false, eval (.Call (.Name "range" p2) [a, b] [] pos2) X.env) :: starEach [] X.env) : PE X (.Call (.Name "list" p) [.Call (.Name "range" p2) [a, b] [] pos2] [] pos) (TX X.K cl E W (mLrg2 false m n)) := by
  refine (pe_listRg hc hg hm (prg_2 hg2 hm2 ha hb na nb hp) na2).weak fun σ H Q ⟨Pn, G0, Fr, Γ, Ts, G, fs, Ex, r, ex, q⟩ => ?_
  refine ⟨Pn, G0, Fr, Γ, Ts, G, fs, Ex, r, ex, (Sat.bind.mp q).imp fun d Γ1 k v H1 G1 fs1 r1 k1 => ?_⟩
  refine ⟨Pn, G0, Fr, Γ1, _, G1, fs1, Ex, r1, ex, (Sat.bind.mp k).imp fun e Γ2 k w H2 G2 fs2 r2 k2 => ?_⟩
  obtain ⟨z, hz, k⟩ := Sat.mO.mp k
  cases d with
  | int i =>
    cases e with
    | int j =>
      simp only [lrg2] at hz
      split at hz
      · rename_i ok
        cases hz
        obtain ⟨_, rfl, _⟩ := r2.top
        obtain ⟨_, rfl, _⟩ := r2.drop1.top
        refine ⟨i, j, rfl, rfl, rngOk_of ok, fun p hp => ?_⟩
        obtain ⟨G3, r3, k3⟩ := r2.drop1.drop1.new (z := .lst true (rngD i (j - i).toNat)) hp ⟨_, rfl, owns_rng⟩
        exact k _ _ G3 fs2 r3 ((k1.trans k2).trans (k3.mono fun j z => nomatch z))
      · cases hz
    | _ => cases hz
  | _ => cases hz
/-! ### slices -/
def mPart (o : Option (M D)) : M (Option Int) := match o with
  | none => pure none
  | some m => do
    let d ← m
    match d with
    | .int i => pure (some i)
    | _ => mNever
def TOX (K : PySem.W.Frag) (cl : Clss) (E : Wt) (W : List Nat) (m : M (Option Int)) : TO := fun σ H Q => ∃ Pn G0 Fr Γ Ts G fs Ex, Rel K cl G H Pn G0 Fr Γ Ts σ fs ∧ ExOk K cl E Pn G0 Fr Ex ∧
  Sat Ex m Γ fun o Γ' => ∀ H' G' fs', Rel K cl G' H' Pn G0 Fr Γ' Ts σ fs' → Keep W fs fs' H H' → Q o H'
theorem _root_.L2.PO.weak {X : Cx} {e : Option Expr} {t t' : TO} (h : PO X e t) (w : ∀ σ H Q, t' σ H Q → t σ H Q) : PO X e t' := ⟨fun pins s σ H Q I q => h.run pins s σ H Q I (w σ H Q q)⟩
theorem to_none {W : List Nat} : PO X none (TOX X.K cl E W (mPart none)) := po_none.weak fun σ H Q ⟨Pn, G0, Fr, Γ, Ts, G, fs, Ex, r, ex, q⟩ => (Sat.pure.mp q) H G fs r Keep.refl
theorem to_some {e : Expr} {m : M D} {W : List Nat} (h : PE X e (TX X.K cl E W m)) : PO X (some e) (TOX X.K cl E W (mPart (some m))) := (po_some h).weak fun σ H Q ⟨Pn, G0, Fr, Γ, Ts, G, fs, Ex, r, ex, q⟩ =>
  ⟨Pn, G0, Fr, Γ, Ts, G, fs, Ex, r, ex, (Sat.bind.mp q).imp fun d Γ1 k v H1 G1 fs1 r1 k1 => by
    split at k
    · rename_i i
      obtain ⟨_, rfl, _⟩ := r1.top
      exact ⟨i, rfl, (Sat.pure.mp k) H1 G1 fs1 r1.drop1 k1⟩
    · exact k.elim⟩
def cutD (ds : List D) (lo hi : Option Int) : List D := (ds.drop (HT.sIx ds.length 0 lo)).take (HT.sIx ds.length ds.length hi - HT.sIx ds.length 0 lo)
def sliceX (d : D) (lo hi : Option Int) : Option D := match lstD d with
  | some ds => some (.lst true (cutD ds lo hi))
  | none => match tupD d with
    | some ds => if HT.sIx ds.length 0 lo = 0 ∧ HT.sIx ds.length ds.length hi = ds.length then some d else some (.tup (cutD ds lo hi))
    | none => match d with
      | .str z => if z.length ≤ sizeLine then some (.str (Txt.slice z lo hi)) else none
      | _ => none
def mSlice (m : M D) (lo hi : Option (M D)) : M D := do
  let d ← m
  let l ← mPart lo
  let h ← mPart hi
  mO (sliceX (fz d) l h)
theorem Owns.cutN {K : PySem.W.Frag} {G H : Hp} {ds : List D} {xs : List V} (o : Owns K cl G H ds xs []) (lo hi : Option Int) : Owns K cl G H (cutD ds lo hi) (cutV xs lo hi) [] := by
  unfold cutD cutV
  rw [← o.length]
  obtain ⟨f, g, e, _, o1⟩ := o.cut (HT.sIx ds.length 0 lo)
  obtain ⟨rfl, rfl⟩ := List.append_eq_nil_iff.mp e.symm
  obtain ⟨f, g, e, o2, _⟩ := o1.cut (HT.sIx ds.length ds.length hi - HT.sIx ds.length 0 lo)
  obtain ⟨rfl, rfl⟩ := List.append_eq_nil_iff.mp e.symm
  exact o2
def rSlB (K : PySem.W.Frag) : V → Option Int → Option Int → Hp → VK → Prop := fun x lo hi H Q => (rSlL K x lo hi H Q ∨ rSlA K x lo hi H Q) ∨ C8.rSlX x lo hi H Q
theorem sl_both : SlR X (rSlB X.K) := SlR.or (SlR.or sl_list sl_tupA) C8.sl_txt
theorem tx_slice {e : Expr} {lo hi : Option Expr} {m : M D} {ml mh : Option (M D)} {W : List Nat} {p2 pos : Pos} (he : PE X e (TX X.K cl E W m)) (hl : PO X lo (TOX X.K cl E W (mPart ml))) (hh : PO X hi (TOX X.K cl E W (mPart mh))) : PE X (.Subscript e (.Slice lo hi none p2) pos) (TX X.K cl E W (mSlice m ml mh)) := by
  refine (pe_slice sl_both he hl hh).weak fun σ H Q ⟨Pn, G0, Fr, Γ, Ts, G, fs, Ex, r, ex, q⟩ => ?_
  refine ⟨Pn, G0, Fr, Γ, Ts, G, fs, Ex, r, ex, (Sat.bind.mp q).imp fun d Γ1 k v H1 G1 fs1 r1 k1 => ?_⟩
  obtain ⟨G1', r1'⟩ := r1.fz
  refine ⟨Pn, G0, Fr, Γ1, _, G1', fs1, Ex, r1', ex, (Sat.bind.mp k).imp fun l Γ2 k H2 G2 fs2 r2 k2 => ?_⟩
  refine ⟨Pn, G0, Fr, Γ2, _, G2, fs2, Ex, r2, ex, (Sat.bind.mp k).imp fun h Γ3 k H3 G3 fs3 r3 k3 => ?_⟩
  obtain ⟨z, hz, k⟩ := Sat.mO.mp k
  obtain ⟨f, o⟩ := r3.top
  have o := o.of_clean (fz_cln d)
  have kp := (k1.trans k2).trans k3
  unfold sliceX at hz
  split at hz
  · rename_i ds hd
    cases hz
    obtain ⟨a, xs, g, rfl, sq, ow⟩ := o.lstS r3.sub hd
    have c : clns ds = true := by
      have := fz_cln d
      generalize fz d = w at this hd
      cases w <;> simp only [lstD] at hd <;> first | (cases hd; simp only [cln, Bool.and_eq_true] at this; first | exact this.2 | exact this) | cases hd
    refine .inl (.inl ⟨a, xs, rfl, sq, fun p hp => ?_⟩)
    obtain ⟨G4, r4, k4⟩ := r3.drop1.new (z := .lst true (cutD ds l h)) hp ⟨_, rfl, (ow.of_clean c).cutN l h⟩
    exact k _ _ G4 fs3 r4 (kp.trans (k4.mono fun j z => nomatch z))
  · split at hz
    · rename_i ds hd
      obtain ⟨a, xs, g, rfl, sq, ow⟩ := o.tupH r3.sub hd
      have c : clns ds = true := by
        have := fz_cln d
        rw [tupD_cln hd] at this
        exact this
      refine .inl (.inr ⟨a, xs, rfl, sq, fun hw => ?_, fun hw p hp => ?_⟩)
      · rw [← ow.length] at hw
        rw [if_pos hw] at hz
        cases hz
        exact k _ _ G3 fs3 (r3.drop1.push o) kp
      · rw [← ow.length] at hw
        rw [if_neg hw] at hz
        cases hz
        obtain ⟨G4, r4, k4⟩ := r3.drop1.new (z := .tup (cutD ds l h)) hp ⟨_, rfl, (ow.of_clean c).cutN l h⟩
        exact k _ _ G4 fs3 r4 (kp.trans (k4.mono fun j z => nomatch z))
    · split at hz
      · rename_i s hs
        split at hz
        · rename_i hl
          cases hz
          rw [hs] at o
          obtain ⟨rfl, _⟩ := o
          exact .inr ⟨_, rfl, hl, k _ _ G3 fs3 (r3.drop1.push ⟨rfl, rfl⟩) kp⟩
        · cases hz
      · cases hz
end
end PX

namespace PX
open PySem PySem.Spec PyProof.Rows L2
/-! ### the rules in short -/
section
variable {cl : Clss} {E : Wt} {X : Cx}
theorem v (i : Nat) {x : Str} {pos : Pos} (hN : X.N[i]? = some x := by rfl) (hv : Vis X.env.scope x := by first | exact Or.inl rfl | exact Or.inr (Or.inl rfl) | exact Or.inr (Or.inr rfl)) (hd : (x == ("__debug__" : Str)) = false := by decide) (hcd : (x == ("__classdict__" : Str)) = false := by decide) : PE X (.Name x pos) (TP X.K cl (pVar i)) := tp_var hN hv hd hcd
theorem kI {i j pos} : PE X (.Constant (.int i) j pos) (TP X.K cl (pCst (.int i))) := tp_cst pe_int fun _ _ => ⟨rfl, rfl⟩
theorem kB {i j pos} : PE X (.Constant (.bool i) j pos) (TP X.K cl (pCst (.bl i))) := tp_cst pe_bl fun _ _ => ⟨rfl, rfl⟩
theorem kN {j pos} : PE X (.Constant .none j pos) (TP X.K cl (pCst .non)) := tp_cst pe_non fun _ _ => ⟨rfl, rfl⟩
theorem kS {i j pos} : PE X (.Constant (.str i) j pos) (TP X.K cl (pCst (.str i))) := tp_cst pe_str fun _ _ => ⟨rfl, rfl⟩
/-- a built-in type as a value; an int of the module -/
theorem kTy {x : Str} {n : String} {pos : Pos} (hm : X.mg x = none) (hv : bootBuiltins x = some (.type n)) (hg : Gl X x := by rfl) (hn : x ≠ "__name__" := by decide) (hd : (x == ("__debug__" : Str)) = false := by decide) : PE X (.Name x pos) (TP X.K cl (pCst (.ty n))) := tp_cst (pe_bltn (v := .ty n) hg hm hv rfl hn hd) fun _ _ => ⟨rfl, rfl⟩
theorem kGI {x : Str} {i : Int} {t : Tok} {pos : Pos} (hm : X.mg x = some (.int i t)) (hg : Gl X x := by rfl) (hd : (x == ("__debug__" : Str)) = false := by decide) : PE X (.Name x pos) (TP X.K cl (pCst (.int i))) := tp_cst (pe_glob (v := .int i) hg hm ⟨t, rfl⟩ hd) fun _ _ => ⟨rfl, rfl⟩
theorem xv {p : PM D} {W : List Nat} {e : Expr} (i : Option Nat) (h : PE X e (TP X.K cl p)) (hW : ∀ j ∈ rootW i, j ∈ W := by first | decide | exact fun _ z => nomatch z) : PE X e (TX X.K cl E W (mVal i p)) := tx_val hW h
theorem mv (i : Nat) {x : Str} {pos : Pos} {W : List Nat} (hN : X.N[i]? = some x := by rfl) (hv : Vis X.env.scope x := by first | exact Or.inl rfl | exact Or.inr (Or.inl rfl) | exact Or.inr (Or.inr rfl)) (hd : (x == ("__debug__" : Str)) = false := by decide) (hcd : (x == ("__classdict__" : Str)) = false := by decide) (hW : i ∈ W := by decide) : PE X (.Name x pos) (TX X.K cl E W (mTake i)) := tx_take hN hv hd hcd hW
theorem oP {op : Operator} {a b : Expr} {g : D → D → Option D} {p q : PM D} {pos : Pos} (h : OpS X cl (binaryOp op) g) (ha : PE X a (TP X.K cl p)) (hb : PE X b (TP X.K cl q)) : PE X (.BinOp a op b pos) (TP X.K cl (pOp2 g p q)) := tp_op h ha hb
theorem cP {op : CmpOp} {a b : Expr} {g : D → D → Option D} {p q : PM D} {pos : Pos} (h : OpS X cl (compareOp op) g) (ha : PE X a (TP X.K cl p)) (hb : PE X b (TP X.K cl q)) (hm : behindInMarks op b = false := by first | exact nomark _ | with_unfolding_all rfl) : PE X (.Compare a [op] [b] pos) (TP X.K cl (pOp2 g p q)) := tp_cmp h ha hb hm
theorem cX {op : CmpOp} {a b : Expr} {g : D → D → Option D} {m n : M D} {W : List Nat} {pos : Pos} (h : OpS X cl (compareOp op) g) (ha : PE X a (TX X.K cl E W m)) (hb : PE X b (TX X.K cl E W n)) (hm : behindInMarks op b = false := by first | exact nomark _ | with_unfolding_all rfl) : PE X (.Compare a [op] [b] pos) (TX X.K cl E W (mOp2 (gC g) m n)) := tx_cmp h ha hb hm
theorem sP {a b : Expr} {p q : PM D} {pos : Pos} (hu : X.A.units + 66 < cLine) (ha : PE X a (TP X.K cl p)) (hb : PE X b (TP X.K cl q)) (hs : PlainIx b := by intro _ _; rfl) : PE X (.Subscript a b pos) (TP X.K cl (pOp2 subX p q)) := tp_sub (ixs_sub hu) ha hb hs
theorem sX {a b : Expr} {m n : M D} {W : List Nat} {pos : Pos} (hu : X.A.units + 66 < cLine) (ha : PE X a (TX X.K cl E W m)) (hb : PE X b (TX X.K cl E W n)) (hs : PlainIx b := by intro _ _; rfl) : PE X (.Subscript a b pos) (TX X.K cl E W (mOp2 (gC subX) m n)) := tx_sub (ixs_sub hu) ha hb hs
theorem hP {op op' : CmpOp} {a b c : Expr} {g g' : D → D → Option D} {p q w : PM D} {pos : Pos} (h : OpS X cl (compareOp op) g) (h' : OpS X cl (compareOp op') g') (ha : PE X a (TP X.K cl p)) (hb : PE X b (TP X.K cl q)) (hc : PE X c (TP X.K cl w)) (hm : lastMarks [op, op'] [b, c] = false := by with_unfolding_all rfl) : PE X (.Compare a [op, op'] [b, c] pos) (TP X.K cl (pChain g g' p q w)) := tp_chain h h' ha hb hc hm
/-! tests -/
theorem uP {e : Expr} {p : PM D} (h : PE X e (TP X.K cl p)) (he : ∀ whole, isTrue e X.env whole = (do let v ← whole; standAt e.pos; holding [v] (truthy v)) := by intro _; rfl) : PT X e (TTP X.K cl (pTru p)) := tt_P h he
theorem uX {e : Expr} {m : M D} {W : List Nat} (h : PE X e (TX X.K cl E W m)) (he : ∀ whole, isTrue e X.env whole = (do let v ← whole; standAt e.pos; holding [v] (truthy v)) := by intro _; rfl) : PT X e (TTX X.K cl E W (mTru m)) := tt_X h he
theorem qP {op : CmpOp} {a b : Expr} {g : D → D → Option D} {p q : PM D} {pos : Pos} (h : OpS X cl (compareOp op) g) (ha : PE X a (TP X.K cl p)) (hb : PE X b (TP X.K cl q)) (hm : behindInMarks op b = false := by first | exact nomark _ | with_unfolding_all rfl) : PT X (.Compare a [op] [b] pos) (TTP X.K cl (pBl (pOp2 g p q))) := tt_cmpP h ha hb hm
theorem qX {op : CmpOp} {a b : Expr} {g : D → D → Option D} {m n : M D} {W : List Nat} {pos : Pos} (h : OpS X cl (compareOp op) g) (ha : PE X a (TX X.K cl E W m)) (hb : PE X b (TX X.K cl E W n)) (hm : behindInMarks op b = false := by first | exact nomark _ | with_unfolding_all rfl) : PT X (.Compare a [op] [b] pos) (TTX X.K cl E W (mBl (mOp2 (gC g) m n))) := tt_cmpX h ha hb hm
theorem rP {op op' : CmpOp} {a b c : Expr} {g g' : D → D → Option D} {p q w : PM D} {pos : Pos} (h : OpS X cl (compareOp op) g) (h' : OpS X cl (compareOp op') g') (ha : PE X a (TP X.K cl p)) (hb : PE X b (TP X.K cl q)) (hc : PE X c (TP X.K cl w)) (hm : lastMarks [op, op'] [b, c] = false := by with_unfolding_all rfl) : PT X (.Compare a [op, op'] [b, c] pos) (TTP X.K cl (pBl (pChain g g' p q w))) := tt_chain h h' ha hb hc hm
theorem tX {p : PM Bool} {e : Expr} {W : List Nat} (h : PT X e (TTP X.K cl p)) : PT X e (TTX X.K cl E W (mP p)) := ttx_val h
/-! arguments -/
theorem aN : PA X [] (TAP X.K cl pNil) := tap_nil
theorem aP {e : Expr} {es : List Expr} {p : PM D} {q : PM (List D)} (h : PE X e (TP X.K cl p)) (t : PA X es (TAP X.K cl q)) (hs : starEach (e :: es) X.env = (false, eval e X.env) :: starEach es X.env := by rfl) : PA X (e :: es) (TAP X.K cl (pCons p q)) := tap_cons h t hs
theorem aXN {W : List Nat} : PA X [] (TAX X.K cl E W (mP pNil)) := tax_P tap_nil
theorem aX {e : Expr} {es : List Expr} {m : M D} {n : M (List D)} {W : List Nat} (h : PE X e (TX X.K cl E W m)) (t : PA X es (TAX X.K cl E W n)) (hs : starEach (e :: es) X.env = (false, eval e X.env) :: starEach es X.env := by rfl) : PA X (e :: es) (TAX X.K cl E W (mCons m n)) := tax_cons idW idW h t hs
theorem aON {W : List Nat} : PA X [] (TAV X.K cl E W mNil) := tav_nil
theorem aO {e : Expr} {es : List Expr} {m : M D} {n : M (List D)} {W : List Nat} (h : PE X e (TX X.K cl E W m)) (t : PA X es (TAV X.K cl E W n)) (hs : starEach (e :: es) X.env = (false, eval e X.env) :: starEach es X.env := by rfl) : PA X (e :: es) (TAV X.K cl E W (mConsO m n)) := tav_consO idW idW h t hs
theorem aRN {W : List Nat} : PA X [] (TAR X.K cl E W (pure [])) := tar_nil
theorem aR (i : Nat) {x : Str} {pos : Pos} {es : List Expr} {n : M (List (Nat ⊕ D))} {W : List Nat} (t : PA X es (TAR X.K cl E W n)) (hN : X.N[i]? = some x := by rfl) (hv : Vis X.env.scope x := by first | exact Or.inl rfl | exact Or.inr (Or.inl rfl) | exact Or.inr (Or.inr rfl)) (hd : (x == ("__debug__" : Str)) = false := by decide) (hcd : (x == ("__classdict__" : Str)) = false := by decide)
    (hs : starEach (.Name x pos :: es) X.env = (false, eval (.Name x pos) X.env) :: starEach es X.env := by rfl) : PA X (.Name x pos :: es) (TAR X.K cl E W (mRefA i n)) := tar_ref hN hv hd hcd t hs
theorem aV {e : Expr} {es : List Expr} {m : M D} {n : M (List (Nat ⊕ D))} {W : List Nat} (h : PE X e (TX X.K cl E W m)) (t : PA X es (TAR X.K cl E W n)) (hs : starEach (e :: es) X.env = (false, eval e X.env) :: starEach es X.env := by rfl) : PA X (e :: es) (TAR X.K cl E W (mValA m n)) := tar_val h t hs
/-! calls -/
section
variable {x : Str} {id T : String} {g : List D → Option D} {q : PM (List D)} {n : M (List D)} {W : List Nat} {e : Expr} {es : List Expr} {p pos : Pos}
theorem bP (hc : ClS X cl (.builtin id) g) (hm : X.mg x = none) (hv : bootBuiltins x = some (.builtin id)) (ha : PA X (e :: es) (TAP X.K cl q)) (hg : Gl X x := by rfl) (hn : x ≠ "__name__" := by decide) (hdb : (x == ("__debug__" : Str)) = false := by decide) (he : starEach (e :: es) X.env = (false, eval e X.env) :: starEach es X.env := by rfl) (hpl : (backTo pos (starEach es X.env)).any (·.1) = false := by rfl) :
    PE X (.Call (.Name x p) (e :: es) [] pos) (TP X.K cl (pCall g q)) := tp_callB hc hg hm hv ha hn hdb he hpl
theorem bX (hc : ClS X cl (.builtin id) g) (hm : X.mg x = none) (hv : bootBuiltins x = some (.builtin id)) (ha : PA X (e :: es) (TAX X.K cl E W n)) (hg : Gl X x := by rfl) (hn : x ≠ "__name__" := by decide) (hdb : (x == ("__debug__" : Str)) = false := by decide) (he : starEach (e :: es) X.env = (false, eval e X.env) :: starEach es X.env := by rfl) (hpl : (backTo pos (starEach es X.env)).any (·.1) = false := by rfl) :
    PE X (.Call (.Name x p) (e :: es) [] pos) (TX X.K cl E W (mCallS g n)) := tx_callBS hc hg hm hv ha hn hdb he hpl
theorem bA (hc : ClA X cl (.builtin id) g) (hm : X.mg x = none) (hv : bootBuiltins x = some (.builtin id)) (ha : PA X (e :: es) (TAX X.K cl E W n)) (hg : Gl X x := by rfl) (hn : x ≠ "__name__" := by decide) (hdb : (x == ("__debug__" : Str)) = false := by decide) (he : starEach (e :: es) X.env = (false, eval e X.env) :: starEach es X.env := by rfl) (hpl : (backTo pos (starEach es X.env)).any (·.1) = false := by rfl) :
    PE X (.Call (.Name x p) (e :: es) [] pos) (TX X.K cl E W (mCallA g n)) := tx_callBA hc hg hm hv ha hn hdb he hpl
theorem yP (hc : ClS X cl (.type T) g) (hm : X.mg x = none) (hv : bootBuiltins x = some (.type T)) (ha : PA X (e :: es) (TAP X.K cl q)) (hg : Gl X x := by rfl) (hn : x ≠ "__name__" := by decide) (hdb : (x == ("__debug__" : Str)) = false := by decide) (he : starEach (e :: es) X.env = (false, eval e X.env) :: starEach es X.env := by rfl) (hpl : (backTo pos (starEach es X.env)).any (·.1) = false := by rfl) :
    PE X (.Call (.Name x p) (e :: es) [] pos) (TP X.K cl (pCall g q)) := tp_callTy hc hg hm hv ha hn hdb he hpl
theorem yX (hc : ClS X cl (.type T) g) (hm : X.mg x = none) (hv : bootBuiltins x = some (.type T)) (ha : PA X (e :: es) (TAX X.K cl E W n)) (hg : Gl X x := by rfl) (hn : x ≠ "__name__" := by decide) (hdb : (x == ("__debug__" : Str)) = false := by decide) (he : starEach (e :: es) X.env = (false, eval e X.env) :: starEach es X.env := by rfl) (hpl : (backTo pos (starEach es X.env)).any (·.1) = false := by rfl) :
    PE X (.Call (.Name x p) (e :: es) [] pos) (TX X.K cl E W (mCallS g n)) := tx_callTyS hc hg hm hv ha hn hdb he hpl
theorem yA (hc : ClA X cl (.type T) g) (hm : X.mg x = none) (hv : bootBuiltins x = some (.type T)) (ha : PA X (e :: es) (TAX X.K cl E W n)) (hg : Gl X x := by rfl) (hn : x ≠ "__name__" := by decide) (hdb : (x == ("__debug__" : Str)) = false := by decide) (he : starEach (e :: es) X.env = (false, eval e X.env) :: starEach es X.env := by rfl) (hpl : (backTo pos (starEach es X.env)).any (·.1) = false := by rfl) :
    PE X (.Call (.Name x p) (e :: es) [] pos) (TX X.K cl E W (mCallA g n)) := tx_callTyA hc hg hm hv ha hn hdb he hpl
end
theorem lr1 {a : Expr} {m : M D} {W : List Nat} {p p2 pos pos2 : Pos} (hm : X.mg "list" = none) (hm2 : X.mg "range" = none) (ha : PE X a (TX X.K cl E W m)) (hc : X.calm = true := by rfl) (hg : Gl X "list" := by rfl) (hg2 : Gl X "range" := by rfl) (na : starEach [a] X.env = (false, eval a X.env) :: starEach [] X.env := by rfl)
    (na2 : starEach [.Call (.Name "range" p2) [a] [] pos2] X.env = (false, eval (.Call (.Name "range" p2) [a] [] pos2) X.env) :: starEach [] X.env := by rfl) : PE X (.Call (.Name "list" p) [.Call (.Name "range" p2) [a] [] pos2] [] pos) (TX X.K cl E W (mLrg1 false m)) := tx_lrg1 hc hg hm hg2 hm2 ha na na2
theorem lr2 {a b : Expr} {m n : M D} {W : List Nat} {p p2 pos pos2 : Pos} (hm : X.mg "list" = none) (hm2 : X.mg "range" = none) (ha : PE X a (TX X.K cl E W m)) (hb : PE X b (TX X.K cl E W n)) (hc : X.calm = true := by rfl) (hg : Gl X "list" := by rfl) (hg2 : Gl X "range" := by rfl) (na : starEach [a, b] X.env = (false, eval a X.env) :: starEach [b] X.env := by rfl) (nb : starEach [b] X.env = (false, eval b X.env) :: starEach [] X.env := by rfl)
    (hp : (backTo pos2 (starEach [b] X.env)).any (·.1) = false := by rfl) (na2 : starEach [.Call (.Name "range" p2) [a, b] [] pos2] X.env = (false, eval (.Call (.Name "range" p2) [a, b] [] pos2) X.env) :: starEach [] X.env := by rfl) : PE X (.Call (.Name "list" p) [.Call (.Name "range" p2) [a, b] [] pos2] [] pos) (TX X.K cl E W (mLrg2 false m n)) := tx_lrg2 hc hg hm hg2 hm2 ha hb na nb hp na2
/-- a def of the program: what is known of it -/
structure Known (P : Program) (w : World) (K : PySem.W.Frag) (mg : Str → Option Value) (base : Heap) (CX : CXT) (cl : Clss) (x : Str) (ps : List Str) (k : Nat) (b : Bool) (n : Nat) (rp : List Nat) (F : Fn) : Prop where
  ex : ∃ f fd, FnOk P w K mg base CX k f fd ps (SpF K cl b n rp F) ∧ mg x = some (.ref f) ∧ PySem.W.keepIn K (.ref f) = true ∧ Binds K fd ps []
theorem fC {CX : CXT} {k k' : Nat} {ps : List Str} {b : Bool} {n : Nat} {rp : List Nat} {F : Fn} {x : Str} {p pos : Pos} {e : Expr} {es : List Expr} {m : M (List (Nat ⊕ D))} {W : List Nat}
    (hF : Known X.prog X.w X.K X.mg X.base CX cl x ps k b n rp F) (hr : Room k' X.A) (hx : Passes CX X (exk cl E)) (ha : PA X (e :: es) (TAR X.K cl E W m)) (hn : ∀ Γ as Γ', m Γ = some (.ok as, Γ') → as.length = n ∧ ∀ j ∈ refsOf as, j ∈ W) (hk' : k ≤ k' := by decide) (hg : Gl X x := by rfl)
    (hdb : (x == ("__debug__" : Str)) = false := by decide) (he : starEach (e :: es) X.env = (false, eval e X.env) :: starEach es X.env := by rfl) (hpl : (backTo pos (starEach es X.env)).any (·.1) = false := by rfl) :
    PE X (.Call (.Name x p) (e :: es) [] pos) (TX X.K cl E W (mCall b rp F m)) := by
  obtain ⟨f, fd, h1, h2, h3, h4⟩ := hF.ex
  exact tx_call h1 hr hk' hg h2 h3 h4 hx ha hn hdb he hpl
theorem fC0 {CX : CXT} {k k' : Nat} {ps : List Str} {b : Bool} {F : Fn} {x : Str} {p pos : Pos} {W : List Nat}
    (hF : Known X.prog X.w X.K X.mg X.base CX cl x ps k b 0 [] F) (hr : Room k' X.A) (hx : Passes CX X (exk cl E)) (hk' : k ≤ k' := by decide) (hg : Gl X x := by rfl) (hdb : (x == ("__debug__" : Str)) = false := by decide) :
    PE X (.Call (.Name x p) [] [] pos) (TX X.K cl E W (mCall b [] F (pure []))) := by
  obtain ⟨f, fd, h1, h2, h3, h4⟩ := hF.ex
  exact tx_call0 h1 hr hk' hg h2 h3 h4 hx hdb
theorem pz {e : Wt} : Passes CX0 X (exk cl e) := fun _ _ _ _ _ _ _ h => h.elim
theorem nR {m : M (List (Nat ⊕ D))} {n : Nat} {W : List Nat} {i : Nat} (h : ∀ Γ as Γ', m Γ = some (.ok as, Γ') → as.length = n ∧ ∀ j ∈ refsOf as, j ∈ W) (hi : i ∈ W := by decide) : ∀ Γ as Γ', mRefA i m Γ = some (.ok as, Γ') → as.length = n + 1 ∧ ∀ j ∈ refsOf as, j ∈ W := args_len_cons hi h
theorem nV {m : M D} {n' : M (List (Nat ⊕ D))} {n : Nat} {W : List Nat} (h : ∀ Γ as Γ', n' Γ = some (.ok as, Γ') → as.length = n ∧ ∀ j ∈ refsOf as, j ∈ W) : ∀ Γ as Γ', mValA m n' Γ = some (.ok as, Γ') → as.length = n + 1 ∧ ∀ j ∈ refsOf as, j ∈ W := args_len_val h
/-! places -/
theorem lN (i : Nat) {x : Str} {pos : Pos} (hN : X.N[i]? = some x := by rfl) (hv : Vis X.env.scope x := by first | exact Or.inl rfl | exact Or.inr (Or.inl rfl) | exact Or.inr (Or.inr rfl)) (hd : (x == ("__debug__" : Str)) = false := by decide) (hcd : (x == ("__classdict__" : Str)) = false := by decide) : PE X (.Name x pos) (TL X.K cl i pNil) := tl_name hN hv hd hcd
theorem hu1 {A : Around} (h : A.units + 66 < cLine) : A.units + 1 < cLine := by omega
theorem lS {i : Nat} {o ix : Expr} {pp : PM (List D)} {q : PM D} {pos : Pos} (hu : X.A.units + 66 < cLine) (ho : PE X o (TL X.K cl i pp)) (hi : PE X ix (TP X.K cl q)) (hs : PlainIx ix := by intro _ _; rfl) : PE X (.Subscript o ix pos) (TL X.K cl i (pSnoc pp q)) := tl_sub (hu1 hu) ho hi hs
section
variable {o e : Expr} {es : List Expr} {name : Str} {apos cpos : Pos} {i : Nat} {pp : PM (List D)} {n : M (List D)} {W W' : List Nat}
theorem me {id : String} {r : V → List V → Hp → VK → Prop} {f : D → List D → Option (D × D)} (Wa : List Nat) (slot : Slot "list" name id) (hty : typeOf (.builtin id) = pure (.type "method_descriptor")) (hm : MtR X id r) (mr : MutR X.K cl r f) (ho : PE X o (TL X.K cl i pp)) (ha : PA X (e :: es) (TAV X.K cl E Wa n))
    (hiW : i ∉ Wa ∨ pp = pNil := by first | exact Or.inr rfl | exact Or.inl (by decide)) (hWW : ∀ j ∈ Wa, j ∈ W' := by first | decide | exact fun _ z => nomatch z) (hi : i ∈ W' := by decide)
    (hbase : attributeBase o name X.env (eval o X.env) = eval o X.env := by rfl)
    (hfew : ((backTo cpos (starEach (e :: es) X.env)).all (fun x => !x.1) && (backToKw cpos (keywordEach [] X.env)).all (fun x => x.1.isSome)
      && decide ((e :: es).length + ([] : List Keyword).length + (if ([] : List Keyword).isEmpty then 0 else 1) < 30)) = true := by rfl)
    (hline : (apos.endLine == cpos.line) = true := by rfl) (hs : starEach (e :: es) X.env = (false, eval e X.env) :: starEach es X.env := by rfl) (hplain : (backTo cpos (starEach es X.env)).any (·.1) = false := by rfl) :
    PE X (.Call (.Attribute o name apos) (e :: es) [] cpos) (TX X.K cl E W' (mMeth false i pp f n)) := tx_meth (b := false) PySem.F.plainAttrs_list slot hty hm mr ho ha hiW hWW hi hbase hfew hline hs hplain
theorem me0 {id : String} {r : V → List V → Hp → VK → Prop} {f : D → List D → Option (D × D)} (slot : Slot "list" name id) (hty : typeOf (.builtin id) = pure (.type "method_descriptor")) (hm : MtR X id r) (mr : MutR X.K cl r f) (ho : PE X o (TL X.K cl i pp)) (hi : i ∈ W' := by decide)
    (hbase : attributeBase o name X.env (eval o X.env) = eval o X.env := by rfl) (hline : (apos.endLine == cpos.line) = true := by rfl) :
    PE X (.Call (.Attribute o name apos) [] [] cpos) (TX X.K cl E W' (mMeth false i pp f mNil)) := tx_meth0 (b := false) PySem.F.plainAttrs_list slot hty hm mr ho hi hbase hline
end
/-! targets, statements -/
theorem gN (i : Nat) {x : Str} {pos : Pos} {W : List Nat} (hN : X.N.Nodup) (hi : X.N[i]? = some x := by rfl) (hx : Loc X.env.scope x := by first | exact Or.inl rfl | exact Or.inr rfl) (hf : X.fn x = true ∨ X.env.scope.names.lookup x = some .local := by first | exact Or.inl rfl | exact Or.inr rfl) (hr : i ∉ E.refs := by decide) (hW : i ∈ W := by decide) : PG X (.Name x pos) (TGt X.K cl E W (mSet i)) := tg_name hN hi hx hf hr hW
theorem gZ {W : List Nat} : PGs X [] (TGts X.K cl E W mGnil) := tgs_nil
theorem gC' {e : Expr} {es : List Expr} {g : D → M Unit} {gs : List D → M Unit} {W : List Nat} (h1 : PG X e (TGt X.K cl E W g)) (h2 : PGs X es (TGts X.K cl E W gs)) (hs : (assignEach (e :: es) X.env).map (·.2) = assign e X.env :: (assignEach es X.env).map (·.2) := by rfl) : PGs X (e :: es) (TGts X.K cl E W (mGcons g gs)) := tgs_cons h1 h2 hs
theorem gT {es : List Expr} {k : Nat} {pos : Pos} {g : List D → M Unit} {n : Nat} {W : List Nat} (h : PGs X es (TGts X.K cl E W g)) (hc : X.calm = true := by rfl) (hn : (assignEach es X.env).length = n := by rfl) (hst : (assignEach es X.env).findIdx? (·.1) = none := by rfl) : PG X (.Tuple es k pos) (TGt X.K cl E W (mGtup n g)) := tg_tup hc h hn hst
theorem gS {o ix : Expr} {pos : Pos} {i : Nat} {pp : PM (List D)} {mi : M D} {W' : List Nat} (W : List Nat) (hu : X.A.units + 66 < cLine) (ho : PE X o (TL X.K cl i pp)) (hi : PE X ix (TX X.K cl E W mi)) (hiW : i ∉ W ∨ pp = pNil := by first | exact Or.inr rfl | exact Or.inl (by decide)) (hWW : ∀ j ∈ W, j ∈ W' := by first | decide | exact fun _ z => nomatch z) (hiW' : i ∈ W' := by decide)
    (ha : ∀ v, assign (.Subscript o ix pos) X.env v = (do
      let ov ← holding [v] (eval o X.env)
      let iv ← holding [v, ov] (eval ix X.env)
      standAt pos
      holding [v, ov, iv] (setItem ov iv v)
      release [v, ov, iv] []) := by intro _; rfl) : PG X (.Subscript o ix pos) (TGt X.K cl E W' (mPut i pp mi)) := tg_sub (hu1 hu) ho hi hiW hWW hiW' ha
theorem sA {tg e : Expr} {m : M D} {g : D → M Unit} {pos : Pos} (W W' : List Nat) (he : PE X e (TX X.K cl E W m)) (hg : PG X tg (TGt X.K cl E W' g)) (hs : swapsWithSole [tg] e pos.line X.env = pure false := by rfl) (hw : swappedStores [tg] e X.env = pure none := by rfl)
    (h1 : (assignEach [tg] X.env).map (·.2) = [assign tg X.env] := by rfl) : PS X (.Assign [tg] e pos) (TSt X.K cl E (mAsg m g)) := st_asg he hg hs hw h1
theorem sPar (i j : Nat) {x y : Str} {a b : Expr} {n : M (List D)} {px py pt pos : Pos} {kt k2 pt2} (W : List Nat) (hN : X.N.Nodup) (ha : PA X [a, b] (TAV X.K cl E W n)) (hc : X.calm = true := by rfl) (hi : X.N[i]? = some x := by rfl) (hj : X.N[j]? = some y := by rfl) (hij : i ≠ j := by decide)
    (hx : X.env.scope.names.lookup x = some .local := by rfl) (hy : X.env.scope.names.lookup y = some .local := by rfl) (hri : i ∉ E.refs := by decide) (hrj : j ∉ E.refs := by decide)
    (hw : swappedStores [.Tuple [.Name x px, .Name y py] kt pt] (.Tuple [a, b] k2 pt2) X.env = pure (some [x, y]) := by rfl)
    (hs : swapsWithSole [.Tuple [.Name x px, .Name y py] kt pt] (.Tuple [a, b] k2 pt2) pos.line X.env = pure false := by rfl) :
    PS X (.Assign [.Tuple [.Name x px, .Name y py] kt pt] (.Tuple [a, b] k2 pt2) pos) (TSt X.K cl E (mPar i j n)) := st_par hc hN hi hj hij hx hy ha hri hrj hw hs
theorem sU (i : Nat) {x : Str} {e : Expr} {m : M D} (W : List Nat) {op : Operator} {f : Int → Int → Int} {pos' pos : Pos} (hN : X.N.Nodup) (ho : PIp X op (ipI f)) (he : PE X e (TX X.K cl E W m)) (hi : X.N[i]? = some x := by rfl) (hx : Loc X.env.scope x := by first | exact Or.inl rfl | exact Or.inr rfl) (hf : X.fn x = true ∨ X.env.scope.names.lookup x = some .local := by first | exact Or.inl rfl | exact Or.inr rfl) (hr : i ∉ E.refs := by decide) :
    PS X (.AugAssign (.Name x pos') op e pos) (TSt X.K cl E (mAug i f m)) := st_aug hN hi hx he ho hf hr
theorem sE {e : Expr} (W : List Nat) {m : M D} {pos : Pos} (he : PE X e (TX X.K cl E W m)) (hs : swapsWith e none pos.line X.env = pure false := by rfl) : PS X (.Expr e pos) (TSt X.K cl E (mDrop m)) := st_expr he hs
theorem sR {e : Expr} (W : List Nat) {m : M D} {pos : Pos} (he : PE X e (TX X.K cl E W m)) : PS X (.Return (some e) pos) (TSt X.K cl E (mRet m)) := st_ret he
theorem sI {c : Expr} {p q : List Stmt} {t : M Bool} {a b : M Fl} (W : List Nat) {pos : Pos} (hc : PT X c (TTX X.K cl E W t)) (ha : PSs X p (TSt X.K cl E a)) (hb : PSs X q (TSt X.K cl E b)) : PS X (.If c p q pos) (TSt X.K cl E (mIf t a b)) := st_if hc ha hb
theorem sW {c : Expr} {body : List Stmt} {t : M Bool} {b : M Fl} (W : List Nat) {n : Nat} {pos : Pos} (hp : PassesOwn (model X.prog X.w) X.A X.env X.xe) (hc : PT X c (TTX X.K cl E W t)) (hb : PSs X body (TSt X.K cl E b)) : PS X (.While c body [] pos) (TSt X.K cl E (mWhile t b n)) := st_while n hp hc hb
theorem sF (W W' : List Nat) {tg iter : Expr} {body : List Stmt} {m : M (List D)} {g : D → M Unit} {b : M Fl} {pos : Pos} (hp : PassesOwn (model X.prog X.w) X.A X.env X.xe) (hi : PI X tg iter (TIX X.K cl E W m)) (hg : PG X tg (TGt X.K cl E W' g)) (hb : PSs X body (TSt X.K cl E b)) (hc : X.calm = true := by rfl)
    (hs : ∀ x, foldedSetIterable iter X.env x = pure x := by intro _; rfl) : PS X (.For tg iter body [] pos) (TSt X.K cl E (mFor m g b)) := st_for hp hc hi hg hb hs
theorem iS {tg e : Expr} {m : M D} {W : List Nat} (h : PE X e (TX X.K cl E W m)) : PI X tg e (TIX X.K cl E W (mIter m)) := tix_seq h
theorem i1 {tg a : Expr} {m : M (List D)} {p pos : Pos} {W : List Nat} (hm : X.mg "range" = none) (ha : PA X [a] (TAX X.K cl E W m)) (hg : Gl X "range" := by rfl) (hs : starEach [a] X.env = [(false, eval a X.env)] := by rfl) : PI X tg (.Call (.Name "range" p) [a] [] pos) (TIX X.K cl E W (mRng1 m)) := tix_rng1 hg hm ha hs
theorem i2 {tg a b : Expr} {m : M (List D)} {p pos : Pos} {W : List Nat} (hm : X.mg "range" = none) (ha : PA X [a, b] (TAX X.K cl E W m)) (hg : Gl X "range" := by rfl) (hs : starEach [a, b] X.env = [(false, eval a X.env), (false, eval b X.env)] := by rfl) (hs2 : starEach [b] X.env = [(false, eval b X.env)] := by rfl) : PI X tg (.Call (.Name "range" p) [a, b] [] pos) (TIX X.K cl E W (mRng2 m)) := tix_rng2 hg hm ha hs hs2
theorem i3 {tg a b c : Expr} {m : M (List D)} {p pos : Pos} {W : List Nat} (hm : X.mg "range" = none) (ha : PA X [a, b, c] (TAX X.K cl E W m)) (hg : Gl X "range" := by rfl) (hs : starEach [a, b, c] X.env = (false, eval a X.env) :: starEach [b, c] X.env := by rfl) (hpl : (backTo pos (starEach [b, c] X.env)).any (·.1) = false := by rfl) : PI X tg (.Call (.Name "range" p) [a, b, c] [] pos) (TIX X.K cl E W (mRng3 m)) := tix_rng3 hg hm ha hs hpl
theorem iR {tg e : Expr} {m : M D} {p pos : Pos} {W : List Nat} (hm : X.mg "reversed" = none) (he : PE X e (TX X.K cl E W m)) (hg : Gl X "reversed" := by rfl) (hs : starEach [e] X.env = (false, eval e X.env) :: starEach [] X.env := by rfl) : PI X tg (.Call (.Name "reversed" p) [e] [] pos) (TIX X.K cl E W (mRev m)) := tix_rev hg hm he hs
theorem iE {elts : List Expr} {kk : Nat} {tpos : Pos} {e : Expr} {m : M (List D)} {p pos : Pos} {W : List Nat} (hm : X.mg "enumerate" = none) (ha : PA X [e] (TAX X.K cl E W m)) (hg : Gl X "enumerate" := by rfl) (hs : starEach [e] X.env = [(false, eval e X.env)] := by rfl) : PI X (.Tuple elts kk tpos) (.Call (.Name "enumerate" p) [e] [] pos) (TIX X.K cl E W (mEnum m)) := tix_enum hg hm ha hs
theorem iZ {elts : List Expr} {kk : Nat} {tpos : Pos} {e e2 : Expr} {m : M (List D)} {p pos : Pos} {W : List Nat} (hm : X.mg "zip" = none) (ha : PA X [e, e2] (TAX X.K cl E W m)) (hg : Gl X "zip" := by rfl) (hs : starEach [e, e2] X.env = (false, eval e X.env) :: starEach [e2] X.env := by rfl) (hpl : (backTo pos (starEach [e2] X.env)).any (·.1) = false := by rfl) : PI X (.Tuple elts kk tpos) (.Call (.Name "zip" p) [e, e2] [] pos) (TIX X.K cl E W (mZip m)) := tix_zip hg hm ha hs hpl
/-! list comprehensions -/
theorem xL {elt tg iter : Expr} {ifs : List Expr} {scope : Scope} (own : List (Str × Nat)) {pos : Pos} {m : M (List D)} {n : Nat} {vs : List Nat} {g : D → M Unit} {t : M Bool} {e : M D} {W : List Nat}
    (hN : X.N.Nodup) (ok : BlkOk X.N X.env.scope scope own) (hi : PI X tg iter (TIX X.K cl E W m))
    (hg : ∀ (s : Shared) (H : Hp) (C : Addr) (cs : List (Str × Addr)) (fp : List Addr), PG (X.blk s H scope (compEnvC scope cs C X.env) fp) tg (TGt X.K cl (blkE n vs) W g))
    (ht : ∀ (s : Shared) (H : Hp) (C : Addr) (cs : List (Str × Addr)) (fp : List Addr), PTs (X.blk s H scope (compEnvC scope cs C X.env) fp) ifs (TTX X.K cl (blkE n vs) W t))
    (he : ∀ (s : Shared) (H : Hp) (C : Addr) (cs : List (Str × Addr)) (fp : List Addr), PE (X.blk s H scope (compEnvC scope cs C X.env) fp) elt (TX X.K cl (blkE n vs) W e))
    (hc : X.calm = true := by rfl) (hn : X.N.length = n := by rfl) (hvs : own.map (·.2) = vs := by rfl) (hv : ∀ j ∈ vs, j ∉ E.refs := by first | decide | exact fun _ z => nomatch z) (hvW : ∀ j ∈ vs, j ∈ W := by first | decide | exact fun _ z => nomatch z) (hs : ∀ x, foldedSetIterable iter X.env x = pure x := by intro _; rfl) :
    PE X (.ListComp elt [⟨tg, iter, ifs, 0⟩] scope pos) (TX X.K cl E W (mLc m n vs g t e)) := tx_lc hc hN hn hi ok hvs hv hvW hg ht he hs
theorem sL (i : Nat) {y : Str} {py : Pos} {elt tg iter : Expr} {ifs : List Expr} {scope : Scope} (own : List (Str × Nat)) {pos spos : Pos} {m : M (List D)} {n : Nat} {vs : List Nat} {g : D → M Unit} {t : M Bool} {e : M D} (W : List Nat)
    (hN : X.N.Nodup) (ok : BlkOk X.N X.env.scope scope own) (hsw : swapsWith (.ListComp elt [⟨tg, iter, ifs, 0⟩] scope pos) (some (.Name y py)) spos.line X.env = pure true) (hi : PI X tg iter (TIX X.K cl E W m))
    (hg : ∀ (s : Shared) (H : Hp) (C : Addr) (cs : List (Str × Addr)) (fp : List Addr), PG (X.blk s H scope (compEnvC scope cs C X.env) fp) tg (TGt X.K cl (blkE n vs) W g))
    (ht : ∀ (s : Shared) (H : Hp) (C : Addr) (cs : List (Str × Addr)) (fp : List Addr), PTs (X.blk s H scope (compEnvC scope cs C X.env) fp) ifs (TTX X.K cl (blkE n vs) W t))
    (he : ∀ (s : Shared) (H : Hp) (C : Addr) (cs : List (Str × Addr)) (fp : List Addr), PE (X.blk s H scope (compEnvC scope cs C X.env) fp) elt (TX X.K cl (blkE n vs) W e))
    (hc : X.calm = true := by rfl) (hn : X.N.length = n := by rfl) (hy : X.N[i]? = some y := by rfl) (hyl : X.env.scope.names.lookup y = some .local := by rfl) (hr : i ∉ E.refs := by decide) (hvs : own.map (·.2) = vs := by rfl) (hv : ∀ j ∈ vs, j ∉ E.refs := by first | decide | exact fun _ z => nomatch z) (hvW : ∀ j ∈ vs, j ∈ W := by first | decide | exact fun _ z => nomatch z) (hs : ∀ x, foldedSetIterable iter X.env x = pure x := by intro _; rfl) :
    PS X (.Assign [.Name y py] (.ListComp elt [⟨tg, iter, ifs, 0⟩] scope pos) spos) (TSt X.K cl E (mAsg (mLc m n vs g t e) (mSet i))) := st_setLc hc hN hn hy hyl hr hsw hi ok hvs hv hvW hg ht he hs
end
/-! ### the law itself -/
/-- law's promise: a list of at most n ints is handed in, True comes out -/
def spLaw (n : Nat) (K : PySem.W.Frag) : Sp := fun vs H Q _ => ∃ (a : Addr) (ns : List Int), vs = [.ref a] ∧ SqL K H a (ns.map V.int) ∧ ns.length ≤ n ∧ ∀ H', Q (.bl true) H'
theorem owns_ints {K : PySem.W.Frag} {cl : Clss} {G H : Hp} : ∀ ns : List Int, Owns K cl G H (ns.map .int) (ns.map V.int) []
  | [] => ⟨rfl, rfl⟩
  | n :: ns => ⟨_, _, [], [], rfl, rfl, ⟨rfl, rfl⟩, owns_ints ns⟩
theorem law_sp {K : PySem.W.Frag} {cl : Clss} {n : Nat} {F : Fn} (h : ∀ ns : List Int, ns.length ≤ n → F [.klst (ns.map .int)] = some (.ok (.bl true), [])) {vs : List V} {H : Hp} {Q : VK} {E : XK} (s : spLaw n K vs H Q E) : SpF K cl false 1 [] F vs H Q E := by
  obtain ⟨a, ns, rfl, sq, hl, q⟩ := s
  refine ⟨rfl, H, H, fun _ => none, [.klst (ns.map .int)], rfl, ⟨⟨rfl, rfl, fun i γ s f e => by simp at e⟩, ⟨[], ⟨[], [], rfl, ⟨a, _, rfl, sq, owns_ints ns⟩, rfl⟩, by simp, fun _ _ e => by cases e⟩, fun _ _ e => e, Ge.refl _, fun _ _ e => e, fun p m => nomatch m⟩, ?_⟩
  rw [h ns hl]
  intro v H' G' r
  obtain ⟨f, o⟩ := r.top
  obtain ⟨rfl, _⟩ := o
  exact q H'
section
variable {cl : Clss} {E : Wt} {X : Cx}
/-- x[e], e with effects: x is looked at behind e -/
def mSubI (i : Nat) (mi : M D) : M D := do
  mAt i []
  let k ← mi
  mVal (some i) (pOp2 subX (pVar i) (pCst (fz k)))
theorem Rel.temp {K : PySem.W.Frag} {G H G0 Fr : Hp} {Pn : List (Nat × Option V)} {Γ : Env} {Ts : List (D × V)} {σ : L2.St} {fs : List (List Addr)} {d : D} {v : V} (r : Rel K cl G H Pn G0 Fr Γ ((d, v) :: Ts) σ fs) : ∃ f, Own K cl G H d v f := by
  obtain ⟨ft, ⟨f1, f2, rfl, o, t⟩, nd, k⟩ := r.ts
  exact ⟨f1, o⟩
theorem tx_subI {o ix : Expr} {i : Nat} {mi : M D} {W : List Nat} {pos : Pos} (hu : X.A.units + 66 < cLine) (ho : PE X o (TL X.K cl i pNil)) (hi : PE X ix (TX X.K cl E W mi)) (hW : i ∈ W) (hs : PlainIx ix) : PE X (.Subscript o ix pos) (TX X.K cl E W (mSubI i mi)) := by
  refine (pe_ix (ixs_sub (cl := cl) hu).ixR ho hi hs).weak fun σ H Q ⟨Pn, G0, Fr, Γ, Ts, G, fs, Ex, R, ex, q⟩ => ?_
  obtain ⟨⟨d0, e0, h1, h2⟩, q⟩ := Sat.mAt (Sat.bind.mp q)
  obtain ⟨v0, f0, hv, e3, od⟩ := R.sl.get h1
  refine ⟨Pn, G0, Fr, Γ, Ts, G, fs, R, d0, v0, [], d0, h1, hv, rfl, rfl, fun u hu => ?_⟩
  cases hu
  refine ⟨Pn, G0, Fr, Γ, Ts, G, fs, Ex, R, ex, (Sat.bind.mp q).imp fun k Γ1 kk y H1 G1 fs1 R1 k1 => ?_⟩
  obtain ⟨G2, R2⟩ := R1.fz
  obtain ⟨fy, oy⟩ := R2.temp
  have look : ∀ {Γ2 : Env} {d : D}, pOp2 subX (pVar i) (pCst (fz k)) Γ2 = some d → ∃ d1, Γ2[i]? = some (some d1) ∧ subX d1 (fz k) = some d := fun {Γ2 d} h => by
    unfold pOp2 pCst at h
    cases hp : pVar i Γ2 with
    | none => rw [hp] at h; cases h
    | some d1 => rw [hp] at h; exact ⟨d1, pVar_some hp, h⟩
  unfold Sat mVal at kk
  cases hp : pOp2 subX (pVar i) (pCst (fz k)) Γ1 with
  | none => rw [hp] at kk; exact kk.elim
  | some d =>
    rw [hp] at kk
    dsimp only at kk
    obtain ⟨d1, g1, g2⟩ := look hp
    by_cases hc : cln d = true
    · rw [if_pos hc] at kk
      obtain ⟨v1, f1, w1, _, o1⟩ := R2.sl.get g1
      rw [hv] at w1
      cases w1
      exact ⟨G2, d1, fz k, d, f1, fy, R2.sub, R2.tg, o1, oy, g2, fun w fw ow => kk w H1 G2 fs1 (R2.drop1.push (ow.of_clean hc)) k1⟩
    · rw [if_neg hc] at kk
      rw [g1] at kk
      dsimp only at kk
      obtain ⟨G3, fs3, R3, k3⟩ := R2.fzAt g1
      cases hp' : pOp2 subX (pVar i) (pCst (fz k)) (Γ1.set i (some (fz d1))) with
      | none => rw [hp'] at kk; exact kk.elim
      | some d' =>
        rw [hp'] at kk
        dsimp only at kk
        obtain ⟨d2, g3, g4⟩ := look hp'
        obtain ⟨fy3, oy3⟩ := R3.temp
        by_cases hc' : cln d' = true
        · rw [if_pos hc'] at kk
          obtain ⟨v1, f1, w1, _, o1⟩ := R3.sl.get g3
          rw [hv] at w1
          cases w1
          exact ⟨G3, d2, fz k, d', f1, fy3, R3.sub, R3.tg, o1, oy3, g4, fun w fw ow => kk w H1 G3 fs3 (R3.drop1.push (ow.of_clean hc')) (k1.trans (k3.mono fun j m => by rw [List.mem_singleton.mp m]; exact hW))⟩
        · rw [if_neg hc'] at kk
          exact kk.elim
theorem subJ {o ix : Expr} {i : Nat} {mi : M D} {W : List Nat} {pos : Pos} (hu : X.A.units + 66 < cLine) (ho : PE X o (TL X.K cl i pNil)) (hi : PE X ix (TX X.K cl E W mi)) (hW : i ∈ W := by decide) (hs : PlainIx ix := by intro _ _; rfl) : PE X (.Subscript o ix pos) (TX X.K cl E W (mSubI i mi)) := tx_subI hu ho hi hW hs
end
end PX

namespace PX
open PySem PySem.Spec PyProof.Rows L2
/-! ### what the mirrors tell: rules from the end of a piece to its start -/
/-- it answers, so -/
def Ret (x : Option (R D × List D)) (P : D → List D → Prop) : Prop := ∃ r os, x = some (.ok r, os) ∧ P r os
theorem Ret.imp {x : Option (R D × List D)} {P Q : D → List D → Prop} (h : Ret x P) (i : ∀ r os, P r os → Q r os) : Ret x Q := by
  obtain ⟨r, os, e, p⟩ := h
  exact ⟨r, os, e, i r os p⟩
abbrev nE : Nat → Env → Prop := fun _ _ => False
def RetK (rp : List Nat) (P : D → List D → Prop) : Fl → Env → Prop := fun fl Γ' => match fl with
  | .rt d => ∃ os, outs rp Γ' = some os ∧ P d os
  | .nx => ∃ os, outs rp Γ' = some os ∧ P .non os
  | _ => False
theorem runF_ret {n : Nat} {rp : List Nat} {mb : M Fl} {ds : List D} {P : D → List D → Prop} (h : Sat nE mb (entry n ds) (RetK rp P)) : Ret (runF n rp mb ds) P := by
  unfold Sat at h
  unfold Ret runF
  cases e : mb (entry n ds) with
  | none => rw [e] at h; exact h.elim
  | some q =>
    obtain ⟨res, Γ'⟩ := q
    rw [e] at h
    cases res with
    | ex c => exact h.elim
    | ok fl =>
      cases fl with
      | rt d => obtain ⟨os, h1, h2⟩ := h; exact ⟨d, os, by simp only [h1], h2⟩
      | nx => obtain ⟨os, h1, h2⟩ := h; exact ⟨.non, os, by simp only [h1], h2⟩
      | bk => exact h.elim
      | ct => exact h.elim
section
variable {α β : Type} {Ex : Nat → Env → Prop} {Γ : Env} {K : Fl → Env → Prop} {k : D → Env → Prop} {kb : Bool → Env → Prop} {ku : Unit → Env → Prop} {kl : List D → Env → Prop} {ka : List (Nat ⊕ D) → Env → Prop}
def seqK (Ex : Nat → Env → Prop) (n : M Fl) (K : Fl → Env → Prop) : Fl → Env → Prop := fun f Γ' => match f with
  | .nx => Sat Ex n Γ' K
  | .rt d => K (.rt d) Γ'
  | .bk => K .bk Γ'
  | .ct => K .ct Γ'
theorem Q.seq {m n : M Fl} (h : Sat Ex m Γ (seqK Ex n K)) : Sat Ex (mSeq m n) Γ K := Sat.bind.mpr (h.imp fun f Γ' q => by cases f <;> exact q)
theorem Q.nxt (h : K .nx Γ) : Sat Ex (pure .nx) Γ K := h
theorem Q.pur {a : α} {k : α → Env → Prop} (h : k a Γ) : Sat Ex (Pure.pure a) Γ k := h
theorem Q.asg {m : M D} {g : D → M Unit} (h : Sat Ex m Γ fun d Γ1 => Sat Ex (g d) Γ1 fun _ Γ2 => K .nx Γ2) : Sat Ex (mAsg m g) Γ K := Sat.bind.mpr (h.imp fun d Γ1 q => Sat.bind.mpr q)
theorem Q.setI {i : Nat} {d : D} (hl : i < Γ.length) (h : ku () (Γ.set i (some d))) : Sat Ex (mSet i d) Γ ku := Sat.mSet.mpr ⟨hl, h⟩
theorem Q.ret {m : M D} (h : Sat Ex m Γ fun d Γ' => K (.rt d) Γ') : Sat Ex (mRet m) Γ K := Sat.bind.mpr h
theorem Q.drop {m : M D} (h : Sat Ex m Γ fun _ Γ' => K .nx Γ') : Sat Ex (mDrop m) Γ K := Sat.bind.mpr h
theorem Q.ifS {t : M Bool} {a b : M Fl} (h : Sat Ex t Γ fun c Γ' => if c = true then Sat Ex a Γ' K else Sat Ex b Γ' K) : Sat Ex (mIf t a b) Γ K := Sat.bind.mpr (h.imp fun c Γ' q => by cases c <;> exact q)
/-- a test that is only read -/
theorem Q.ifP {p : PM Bool} {a b : M Fl} {c : Bool} (hp : p Γ = some c) (h1 : c = true → Sat Ex a Γ K) (h2 : c = false → Sat Ex b Γ K) : Sat Ex (mIf (mP p) a b) Γ K := Q.ifS (Sat.mP.mpr ⟨c, hp, by cases c; exact h2 rfl; exact h1 rfl⟩)
theorem Q.tst {p : PM Bool} {c : Bool} (hp : p Γ = some c) (h : kb c Γ) : Sat Ex (PX.mP p) Γ kb := Sat.mP.mpr ⟨c, hp, h⟩
theorem Q.val {i : Option Nat} {p : PM D} {d : D} (hp : p Γ = some d) (hc : cln d = true) (h : k d Γ) : Sat Ex (mVal i p) Γ k := by
  unfold Sat mVal
  rw [hp]
  simp only [hc, if_true]
  exact h
/-- .. that is given up -/
theorem Q.valz {i : Nat} {p : PM D} {d di d' : D} (hp : p Γ = some d) (hc : cln d = false) (hi : Γ[i]? = some (some di)) (hp' : p (Γ.set i (some (fz di))) = some d') (hc' : cln d' = true) (h : k d' (Γ.set i (some (fz di)))) : Sat Ex (mVal (some i) p) Γ k := by
  unfold Sat mVal
  rw [hp]
  simp only [hc, Bool.false_eq_true, if_false, hi, hp', hc', if_true]
  exact h
theorem Q.takeI {i : Nat} {d : D} (hi : Γ[i]? = some (some d)) (h : k d (Γ.set i none)) : Sat Ex (mTake i) Γ k := by
  unfold Sat mTake
  rw [hi]
  exact h
theorem Q.consA {m : M D} {n : M (List D)} (h : Sat Ex m Γ fun d Γ1 => Sat Ex n Γ1 fun ds Γ2 => kl (fz d :: ds) Γ2) : Sat Ex (mCons m n) Γ kl := Sat.bind.mpr (h.imp fun d Γ1 q => Sat.bind.mpr q)
theorem Q.consO {m : M D} {n : M (List D)} (h : Sat Ex m Γ fun d Γ1 => Sat Ex n Γ1 fun ds Γ2 => kl (d :: ds) Γ2) : Sat Ex (mConsO m n) Γ kl := Sat.bind.mpr (h.imp fun d Γ1 q => Sat.bind.mpr q)
theorem Q.nilO (h : kl [] Γ) : Sat Ex mNil Γ kl := h
theorem Q.nilP (h : kl [] Γ) : Sat Ex (PX.mP pNil) Γ kl := Sat.mP.mpr ⟨[], rfl, h⟩
theorem Q.op2 {g : D → D → Option D} {m n : M D} (h : Sat Ex m Γ fun d Γ1 => Sat Ex n Γ1 fun e Γ2 => ∃ z, g (fz d) (fz e) = some z ∧ k z Γ2) : Sat Ex (mOp2 g m n) Γ k := Sat.bind.mpr (h.imp fun d Γ1 q => Sat.bind.mpr (q.imp fun e Γ2 w => Sat.mO.mpr w))
theorem Q.un {g : D → Option D} {m : M D} (h : Sat Ex m Γ fun d Γ1 => ∃ z, g (fz d) = some z ∧ k z Γ1) : Sat Ex (mUn g m) Γ k := Sat.bind.mpr (h.imp fun d Γ1 q => Sat.mO.mpr q)
theorem Q.callS {g : List D → Option D} {n : M (List D)} (h : Sat Ex n Γ fun ds Γ1 => ∃ z, g ds = some z ∧ cln z = true ∧ k z Γ1) : Sat Ex (mCallS g n) Γ k := Sat.bind.mpr (h.imp fun ds Γ1 ⟨z, e, c, q⟩ => by simp only [e, c, if_true]; exact q)
theorem Q.callA {g : List D → Option D} {n : M (List D)} (h : Sat Ex n Γ fun ds Γ1 => ∃ z, g ds = some z ∧ k z Γ1) : Sat Ex (mCallA g n) Γ k := Sat.bind.mpr (h.imp fun ds Γ1 q => Sat.mO.mpr q)
theorem Q.tupM {n : M (List D)} (h : Sat Ex n Γ fun ds Γ1 => ds.length ≤ sizeLine ∧ k (.tup ds) Γ1) : Sat Ex (mTup n) Γ k := Sat.bind.mpr (h.imp fun ds Γ1 ⟨z, q⟩ => Sat.mO.mpr ⟨.tup ds, by simp [szok, z], q⟩)
theorem Q.lstM {n : M (List D)} (h : Sat Ex n Γ fun ds Γ1 => ds.length ≤ sizeLine ∧ k (.lst true ds) Γ1) : Sat Ex (mLst n) Γ k := Sat.bind.mpr (h.imp fun ds Γ1 ⟨z, q⟩ => Sat.mO.mpr ⟨.lst true ds, by simp [szok, z], q⟩)
theorem Q.dicE {t : Bool} (h : k (.dic true t [] []) Γ) : Sat Ex (mDicE t) Γ k := h
/-- a call -/
theorem Q.call {rp : List Nat} {F : Fn} {m : M (List (Nat ⊕ D))} (h : Sat Ex m Γ fun as Γ1 => refPos 0 as = rp ∧ ∃ ds Γ2, takeArgs as Γ1 = some (ds, Γ2) ∧ Ret (F ds) fun r os => ∃ Γ3, putBack (refsOf as) os Γ2 = some Γ3 ∧ k r Γ3) : Sat Ex (mCall false rp F m) Γ k :=
  Sat.bind.mpr (h.imp fun as Γ1 ⟨e1, ds, Γ2, e2, r, os, e3, Γ3, e4, q⟩ => by
    unfold Sat mApp
    simp only [e1, if_true, e2, e3, e4]
    exact q)
theorem Q.refA {i : Nat} {n : M (List (Nat ⊕ D))} {d : D} (hi : Γ[i]? = some (some d)) (h : Sat Ex n Γ fun as Γ' => ka (.inl i :: as) Γ') : Sat Ex (mRefA i n) Γ ka := Sat.bind.mpr (Sat.mP.mpr ⟨d, by unfold pVar; rw [hi], Sat.bind.mpr h⟩)
theorem Q.valA {m : M D} {n : M (List (Nat ⊕ D))} (h : Sat Ex m Γ fun d Γ1 => Sat Ex n Γ1 fun as Γ2 => ka (.inr d :: as) Γ2) : Sat Ex (mValA m n) Γ ka := Sat.bind.mpr (h.imp fun d Γ1 q => Sat.bind.mpr q)
theorem Q.nilA (h : ka [] Γ) : Sat Ex (pure []) Γ ka := h
/-- a name's thing changed in place -/
theorem Q.updI {i : Nat} {ks : List D} {g : D → Option (D × D)} {d e e' res d' : D} (h1 : Γ[i]? = some (some d)) (h2 : getAt d ks = some e) (h3 : g e = some (e', res)) (h4 : setAt d ks e' = some d') (h : k res (Γ.set i (some d'))) : Sat Ex (mUpd i ks g) Γ k := by
  unfold Sat mUpd
  simp only [h1, h2, h3, h4]
  exact h
theorem Q.put {i : Nat} {pp : PM (List D)} {mi : M D} {d d0 e0 : D} {ks : List D} (hp : pp Γ = some ks) (h1 : Γ[i]? = some (some d0)) (h2 : getAt d0 ks = some e0) (h : Sat Ex mi Γ fun kk Γ1 => ∃ d1 e1 e' res d', Γ1[i]? = some (some d1) ∧ getAt d1 ks = some e1 ∧ storeD e1 [fz kk, d] = some (e', res) ∧ setAt d1 ks e' = some d' ∧ ku () (Γ1.set i (some d'))) : Sat Ex (mPut i pp mi d) Γ ku := by
  refine Sat.bind.mpr (Sat.mP.mpr ⟨ks, hp, Sat.bind.mpr ?_⟩)
  unfold Sat mAt
  simp only [h1, h2]
  refine Sat.bind.mpr (h.imp fun kk Γ1 ⟨d1, e1, e', res, d', a, b, c, e, q⟩ => Sat.bind.mpr (Q.updI a b c e q))
theorem setAt_nil (d e : D) : setAt d [] e = some e := by unfold setAt; rfl
theorem Q.put0 {i : Nat} {mi : M D} {d d0 : D} (h1 : Γ[i]? = some (some d0)) (h : Sat Ex mi Γ fun kk Γ1 => ∃ d1 e' res, Γ1[i]? = some (some d1) ∧ storeD d1 [fz kk, d] = some (e', res) ∧ ku () (Γ1.set i (some e'))) : Sat Ex (mPut i pNil mi d) Γ ku :=
  Q.put (ks := []) rfl h1 rfl (h.imp fun kk Γ1 ⟨d1, e', res, a, b, q⟩ => ⟨d1, d1, e', res, e', a, rfl, b, setAt_nil _ _, q⟩)
theorem Q.meth {b : Bool} {i : Nat} {pp : PM (List D)} {f : D → List D → Option (D × D)} {n : M (List D)} {d0 e0 : D} {ks : List D} (hp : pp Γ = some ks) (h1 : Γ[i]? = some (some d0)) (h2 : getAt d0 ks = some e0) (hk : okT b e0 = true)
    (h : Sat Ex n Γ fun ds Γ1 => ∃ d1 e1 e' res d', Γ1[i]? = some (some d1) ∧ getAt d1 ks = some e1 ∧ f e1 ds = some (e', res) ∧ setAt d1 ks e' = some d' ∧ k res (Γ1.set i (some d'))) : Sat Ex (mMeth b i pp f n) Γ k := by
  refine Sat.bind.mpr (Sat.mP.mpr ⟨ks, hp, Sat.bind.mpr ?_⟩)
  unfold Sat mChk
  simp only [h1, h2, hk, if_true]
  exact Sat.bind.mpr (h.imp fun ds Γ1 ⟨d1, e1, e', res, d', a, b, c, e, q⟩ => Q.updI a b c e q)
theorem Q.meth0 {b : Bool} {i : Nat} {f : D → List D → Option (D × D)} {n : M (List D)} {d0 : D} (h1 : Γ[i]? = some (some d0)) (hk : okT b d0 = true) (h : Sat Ex n Γ fun ds Γ1 => ∃ d1 e' res, Γ1[i]? = some (some d1) ∧ f d1 ds = some (e', res) ∧ k res (Γ1.set i (some e'))) : Sat Ex (mMeth b i pNil f n) Γ k :=
  Q.meth (ks := []) rfl h1 rfl hk (h.imp fun ds Γ1 ⟨d1, e', res, a, b, q⟩ => ⟨d1, d1, e', res, e', a, rfl, b, setAt_nil _ _, q⟩)
/-! walks -/
theorem Q.iter {m : M D} (h : Sat Ex m Γ fun d Γ1 => ∃ ds, seqD (fz d) = some ds ∧ kl ds Γ1) : Sat Ex (mIter m) Γ kl := Sat.bind.mpr (h.imp fun d Γ1 q => Sat.mO.mpr q)
theorem Q.rng1 {m : M (List D)} (h : Sat Ex m Γ fun ds Γ1 => ∃ j, ds = [.int j] ∧ big j = true ∧ kl (rngD 0 j.toNat) Γ1) : Sat Ex (mRng1 m) Γ kl := Sat.bind.mpr (h.imp fun d Γ1 ⟨j, e, b, q⟩ => Sat.mO.mpr ⟨_, by rw [e]; simp only [PX.rng1, b, if_true], q⟩)
theorem Q.rng2 {m : M (List D)} (h : Sat Ex m Γ fun ds Γ1 => ∃ i j, ds = [.int i, .int j] ∧ (big i && big j) = true ∧ kl (rngD i (j - i).toNat) Γ1) : Sat Ex (mRng2 m) Γ kl := Sat.bind.mpr (h.imp fun d Γ1 ⟨i, j, e, b, q⟩ => Sat.mO.mpr ⟨_, by rw [e]; simp only [PX.rng2, b, if_true], q⟩)
theorem Q.forS {m : M (List D)} {g : D → M Unit} {b : M Fl} (h : Sat Ex m Γ fun ds Γ1 => Sat Ex (mForL g b ds) Γ1 K) : Sat Ex (mFor m g b) Γ K := Sat.bind.mpr h
/-- how a turn ends -/
def turnK (I : Env → Prop) (K : Fl → Env → Prop) : Fl → Env → Prop := fun f Γ' => match f with
  | .nx => I Γ'
  | .ct => I Γ'
  | .bk => K .nx Γ'
  | .rt d => K (.rt d) Γ'
theorem Q.forL {g : D → M Unit} {b : M Fl} : ∀ {ds : List D} {Γ : Env} (I : Nat → Env → Prop), I 0 Γ → (∀ i d Γ, ds[i]? = some d → I i Γ → Sat Ex (g d) Γ fun _ Γ1 => Sat Ex b Γ1 (turnK (I (i + 1)) K)) → (∀ Γ, I ds.length Γ → K .nx Γ) → Sat Ex (mForL g b ds) Γ K
  | [], Γ, I, h0, _, hd => hd Γ h0
  | d :: ds, Γ, I, h0, hs, hd => by
    refine Sat.bind.mpr ((hs 0 d Γ rfl h0).imp fun _ Γ1 q => Sat.bind.mpr (q.imp fun f Γ2 w => ?_))
    have next : ∀ Γ2, I 1 Γ2 → Sat Ex (mForL g b ds) Γ2 K := fun Γ2 i1 => Q.forL (fun i => I (i + 1)) i1 (fun i e Γ he hi => hs (i + 1) e Γ (by simpa using he) hi) hd
    cases f with
    | nx => exact next Γ2 w
    | ct => exact next Γ2 w
    | bk => exact w
    | rt d => exact w
theorem Q.whileL {t : M Bool} {b : M Fl} (I : Nat → Env → Prop) : ∀ {n m : Nat} {Γ : Env}, m < n → I m Γ → (∀ m Γ, I m Γ → Sat Ex t Γ fun c Γ1 => if c = true then Sat Ex b Γ1 (turnK (fun Γ2 => ∃ m', m' < m ∧ I m' Γ2) K) else K .nx Γ1) → Sat Ex (mWhile t b n) Γ K
  | 0, _, _, h, _, _ => absurd h (Nat.not_lt_zero _)
  | n + 1, m, Γ, hm, h0, hs => by
    refine Sat.bind.mpr ((hs m Γ h0).imp fun c Γ1 q => ?_)
    cases c with
    | false => exact q
    | true =>
      refine Sat.bind.mpr (Sat.imp (show Sat Ex b Γ1 (turnK (fun Γ2 => ∃ m', m' < m ∧ I m' Γ2) K) from q) fun f Γ2 w => ?_)
      cases f with
      | nx => obtain ⟨m', h1, h2⟩ := w; exact Q.whileL I (by omega) h2 hs
      | ct => obtain ⟨m', h1, h2⟩ := w; exact Q.whileL I (by omega) h2 hs
      | bk => exact w
      | rt d => exact w
/-- tuples as targets -/
theorem Q.gtup {n : Nat} {g : List D → M Unit} {ds : List D} (hl : ds.length = n) (h : Sat Ex (g ds) Γ ku) : Sat Ex (mGtup n g (.tup ds)) Γ ku := by
  show Sat Ex (if ds.length = n then g ds else mNever) Γ ku
  rw [if_pos hl]
  exact h
theorem Q.gcons {g : D → M Unit} {gs : List D → M Unit} {d : D} {ds : List D} (h : Sat Ex (g d) Γ fun _ Γ1 => Sat Ex (gs ds) Γ1 ku) : Sat Ex (mGcons g gs (d :: ds)) Γ ku := Sat.bind.mpr h
theorem Q.gnil (h : ku () Γ) : Sat Ex (mGnil []) Γ ku := h
/-! comprehensions -/
theorem Q.lcI {it : M (List D)} {n : Nat} {vs : List Nat} {g : D → M Unit} {t : M Bool} {e : M D}
    (h : Sat Ex it Γ fun ds Γ1 => savedOk Γ1 vs = true ∧ ∃ I : Nat → List D → Env → Prop, I 0 [] (wip Γ1 vs) ∧
      (∀ i d acc Γ, ds[i]? = some d → I i acc Γ → Sat nE (g d) Γ fun _ Γ2 => Γ2.length = n ∧ Sat nE t Γ2 fun c Γ3 => if c = true then Sat nE e Γ3 (fun y Γ4 => acc.length < sizeLine ∧ I (i + 1) (acc ++ [y]) (wip Γ4 vs)) else I (i + 1) acc (wip Γ3 vs)) ∧
      ∀ acc Γ', I ds.length acc Γ' → k (.lst true acc) (resto Γ1 Γ' vs)) : Sat Ex (mLc it n vs g t e) Γ k := by
  refine Sat.bind.mpr (h.imp fun ds Γ1 ⟨sv, I, h0, hs, hd⟩ => Sat.bind.mpr ?_)
  have loop : ∀ (ds : List D) (acc : List D) (Γ : Env) (I : Nat → List D → Env → Prop), I 0 acc Γ → (∀ i d acc Γ, ds[i]? = some d → I i acc Γ → Sat nE (g d) Γ fun _ Γ2 => Γ2.length = n ∧ Sat nE t Γ2 fun c Γ3 => if c = true then Sat nE e Γ3 (fun y Γ4 => acc.length < sizeLine ∧ I (i + 1) (acc ++ [y]) (wip Γ4 vs)) else I (i + 1) acc (wip Γ3 vs)) →
      Sat nE (mLcL n vs g t e ds acc) Γ fun acc Γ' => I ds.length acc Γ' := by
    intro ds
    induction ds with
    | nil => intro acc Γ I h0 _; exact h0
    | cons d ds ih =>
      intro acc Γ I h0 hs
      refine Sat.bind.mpr ((hs 0 d acc Γ rfl h0).imp fun _ Γ2 ⟨hl, q⟩ => Sat.bind.mpr (Sat.mLen.mpr ⟨hl, Sat.bind.mpr (q.imp fun c Γ3 w => ?_)⟩))
      have hs' : ∀ i d acc Γ, ds[i]? = some d → I (i + 1) acc Γ → Sat nE (g d) Γ fun _ Γ2 => Γ2.length = n ∧ Sat nE t Γ2 fun c Γ3 => if c = true then Sat nE e Γ3 (fun y Γ4 => acc.length < sizeLine ∧ I (i + 1 + 1) (acc ++ [y]) (wip Γ4 vs)) else I (i + 1 + 1) acc (wip Γ3 vs) := fun i d acc Γ hi hI => hs (i + 1) d acc Γ (by simpa using hi) hI
      cases c with
      | true =>
        refine Sat.bind.mpr (Sat.imp (show Sat nE e Γ3 (fun y Γ4 => acc.length < sizeLine ∧ I (0 + 1) (acc ++ [y]) (wip Γ4 vs)) from w) fun y Γ4 ⟨hz, i1⟩ => ?_)
        refine Sat.bind.mpr (show Sat nE (if acc.length < sizeLine then mLcL n vs g t e ds (acc ++ [y]) else mNever) (wip Γ4 vs) _ from ?_)
        rw [if_pos hz]
        exact ih _ _ (fun i => I (i + 1)) i1 hs'
      | false =>
        refine Sat.bind.mpr (show Sat nE (mLcL n vs g t e ds acc) (wip Γ3 vs) _ from ?_)
        exact ih _ _ (fun i => I (i + 1)) w hs'
  have q := loop ds [] (wip Γ1 vs) I h0 hs
  unfold Sat at q ⊢
  unfold mHid
  rw [if_pos sv]
  cases em : mLcL n vs g t e ds [] (wip Γ1 vs) with
  | none => rw [em] at q; exact q.elim
  | some r =>
    obtain ⟨res, Γ'⟩ := r
    rw [em] at q
    cases res with
    | ok acc => exact hd acc Γ' q
    | ex c => exact q.elim
/-- .. each item by itself, nothing else changed -/
theorem Q.lcM {it : M (List D)} {n : Nat} {vs : List Nat} {g : D → M Unit} {t : M Bool} {e : M D}
    (h : Sat Ex it Γ fun ds Γ1 => savedOk Γ1 vs = true ∧ ds.length ≤ sizeLine ∧ ∃ f : D → Option D,
      (∀ d ∈ ds, Sat nE (g d) (wip Γ1 vs) fun _ Γ2 => Γ2.length = n ∧ Sat nE t Γ2 fun c Γ3 => match f d with
        | some y => c = true ∧ Sat nE e Γ3 fun y' Γ4 => y' = y ∧ wip Γ4 vs = wip Γ1 vs
        | none => c = false ∧ wip Γ3 vs = wip Γ1 vs) ∧ k (.lst true (ds.filterMap f)) (resto Γ1 (wip Γ1 vs) vs)) : Sat Ex (mLc it n vs g t e) Γ k := by
  refine Q.lcI (h.imp fun ds Γ1 ⟨sv, hz, f, hs, hk⟩ => ⟨sv, fun i acc Γ => Γ = wip Γ1 vs ∧ acc = (ds.take i).filterMap f, ⟨rfl, rfl⟩, fun i d acc Γ hi ⟨e1, e2⟩ => ?_, fun acc Γ' ⟨e1, e2⟩ => ?_⟩)
  · subst e1 e2
    obtain ⟨hl, hd⟩ := List.getElem?_eq_some_iff.mp hi
    refine (hs d (List.mem_of_getElem? hi)).imp fun _ Γ2 ⟨l2, q⟩ => ⟨l2, q.imp fun c Γ3 w => ?_⟩
    have tk : ds.take (i + 1) = ds.take i ++ [d] := by rw [List.take_succ, hi]; rfl
    simp only [tk, List.filterMap_append]
    cases hf : f d with
    | some y =>
      rw [hf] at w
      obtain ⟨rfl, w⟩ := w
      rw [if_pos rfl]
      refine w.imp fun y' Γ4 ⟨ey, ew⟩ => ⟨Nat.lt_of_le_of_lt (List.length_filterMap_le _ _) (by rw [List.length_take]; omega), ew, ?_⟩
      rw [ey, List.filterMap_cons_some hf, List.filterMap_nil]
    | none =>
      rw [hf] at w
      obtain ⟨rfl, w⟩ := w
      rw [if_neg Bool.false_ne_true]
      exact ⟨w, by rw [List.filterMap_cons_none hf, List.filterMap_nil, List.append_nil]⟩
  · rw [List.take_length] at e2
    rw [e1, e2]
    exact hk
end
end PX

namespace PX
open PySem PySem.Spec PyProof.Rows L2
/-! ### what is read: by its parts -/
section
variable {Γ : Env} {p q w : PM D} {b c : PM Bool} {d e : D}
theorem ev_ii {C : Int → Int → Bool} {g : Int → Int → Int} {i j : Int} (hp : p Γ = some (.int i)) (hq : q Γ = some (.int j)) (hc : C i j = true) : pOp2 (iiI C g) p q Γ = some (.int (g i j)) := by
  unfold pOp2 iiI
  simp only [hp, hq, hc, if_true]
theorem ev_iB {f : Int → Int → Bool} {i j : Int} (hp : p Γ = some (.int i)) (hq : q Γ = some (.int j)) : pOp2 (iiB f) p q Γ = some (.bl (f i j)) := by
  unfold pOp2 iiB
  simp only [hp, hq]
theorem ev_op {g : D → D → Option D} {x y z : D} (hp : p Γ = some x) (hq : q Γ = some y) (h : g x y = some z) : pOp2 g p q Γ = some z := by
  unfold pOp2
  simp only [hp, hq, h]
theorem ev_bl {k : Bool} (h : p Γ = some (.bl k)) : pBl p Γ = some k := by
  unfold pBl
  simp only [h, blX]
theorem ev_tru {k : Bool} (h : p Γ = some d) (h2 : truD d = some k) : pTru p Γ = some k := by
  unfold pTru
  simp only [h, h2]
theorem ev_not {k : Bool} (h : b Γ = some k) : pNotB b Γ = some (!k) := by
  unfold pNotB
  simp only [h, Option.map_some]
theorem ev_and {k l : Bool} (h : b Γ = some k) (h2 : k = true → c Γ = some l) : pAndB b c Γ = some (k && l) := by
  unfold pAndB
  cases k with
  | true => simp only [h, h2 rfl, Bool.true_and]
  | false => simp only [h, Bool.false_and]
theorem ev_or {k l : Bool} (h : b Γ = some k) (h2 : k = false → c Γ = some l) : pOrB b c Γ = some (k || l) := by
  unfold pOrB
  cases k with
  | false => simp only [h, h2 rfl, Bool.false_or]
  | true => simp only [h, Bool.true_or]
theorem ev_andD {k l : Bool} (h : p Γ = some (.bl k)) (h2 : k = true → q Γ = some (.bl l)) : pAnd p q Γ = some (.bl (k && l)) := by
  unfold pAnd
  cases k with
  | true => simp only [h, h2 rfl, Bool.true_and]
  | false => simp only [h, Bool.false_and]
theorem ev_orD {k l : Bool} (h : p Γ = some (.bl k)) (h2 : k = false → q Γ = some (.bl l)) : pOr p q Γ = some (.bl (k || l)) := by
  unfold pOr
  cases k with
  | false => simp only [h, h2 rfl, Bool.false_or]
  | true => simp only [h, Bool.true_or]
theorem ev_notD {k : Bool} (h : p Γ = some (.bl k)) : pNot p Γ = some (.bl (!k)) := by
  unfold pNot
  simp only [h]
theorem ev_call {g : List D → Option D} {r : PM (List D)} {ds : List D} {z : D} (h : r Γ = some ds) (h2 : g ds = some z) : pCall g r Γ = some z := by
  unfold pCall
  simp only [h, h2]
theorem ev_cons {r : PM (List D)} {ds : List D} (h : p Γ = some d) (h2 : r Γ = some ds) : pCons p r Γ = some (d :: ds) := by
  unfold pCons
  simp only [h, h2]
theorem ev_nil : pNil Γ = some [] := rfl
theorem ev_chain {f f' : Int → Int → Bool} {i j l : Int} (hp : p Γ = some (.int i)) (hq : q Γ = some (.int j)) (hw : w Γ = some (.int l)) : pChain (iiB f) (iiB f') p q w Γ = some (.bl (f i j && f' j l)) := by
  unfold pChain
  simp only [hp, hq, hw, iiB]
  cases f i j <;> rfl
theorem ev_if {k : Bool} {x y : D} (h : b Γ = some k) (h1 : k = true → p Γ = some x) (h2 : k = false → q Γ = some y) : pIf b p q Γ = some (if k then x else y) := by
  unfold pIf
  cases k with
  | true => simp only [h, h1 rfl, if_true]
  | false => simp only [h, h2 rfl, Bool.false_eq_true, if_false]
end
section
variable {k : D → Env → Prop} {Γ : Env}
theorem ez_ii {C : Int → Int → Bool} {g : Int → Int → Int} {i j : Int} (hc : C i j = true) (h : k (.int (g i j)) Γ) : ∃ z, gC (iiI C g) (fz (.int i)) (fz (.int j)) = some z ∧ k z Γ := ⟨_, by unfold gC iiI; simp only [fz, hc, if_true, cln], h⟩
theorem ez_iB {f : Int → Int → Bool} {i j : Int} (h : k (.bl (f i j)) Γ) : ∃ z, gC (iiB f) (fz (.int i)) (fz (.int j)) = some z ∧ k z Γ := ⟨_, rfl, h⟩
theorem ez_add {i j : Int} (h : k (.int (i + j)) Γ) : ∃ z, addX (fz (.int i)) (fz (.int j)) = some z ∧ k z Γ := ⟨_, rfl, h⟩
theorem ez_mul {i j : Int} (hc : cMul i j = true) (h : k (.int (i * j)) Γ) : ∃ z, mulX (fz (.int i)) (fz (.int j)) = some z ∧ k z Γ := ⟨_, by show iiI cMul _ (.int i) (.int j) = _; unfold iiI; simp only [hc, if_true], h⟩
theorem ez_neg {i : Int} (h : k (.int (-i)) Γ) : ∃ z, negX (fz (.int i)) = some z ∧ k z Γ := ⟨_, rfl, h⟩
end
theorem cMul_l {i j : Int} (h0 : -18446744073709551616 < i) (h1 : i < 18446744073709551616) : cMul i j = true := decide_eq_true (.inl ⟨by omega, by omega⟩)
theorem cMul_r {i j : Int} (h0 : -18446744073709551616 < j) (h1 : j < 18446744073709551616) : cMul i j = true := decide_eq_true (.inr ⟨by omega, by omega⟩)
theorem Q.setB {Ex : Nat → Env → Prop} {Γ : Env} {ku : Unit → Env → Prop} {i : Nat} {d : D} (hl : Nat.ble (i + 1) Γ.length = true) (h : ku () (Γ.set i (some d))) : Sat Ex (mSet i d) Γ ku := Q.setI (Nat.le_of_ble_eq_true hl) h
/-! ### subscripts of lists -/
theorem atI_nat {α : Type} {xs : List α} {i : Int} {x : α} (h0 : 0 ≤ i) (h : xs[i.toNat]? = some x) : L2.atI xs i = some x := by
  unfold L2.atI L2.ixN
  have hl : i.toNat < xs.length := (List.getElem?_eq_some_iff.mp h).1
  rw [if_pos h0, if_pos (by omega)]
  exact h
theorem at_lt {α : Type} {xs : List α} {i : Int} (h0 : 0 ≤ i) (h1 : i < xs.length) : ∃ x, xs[i.toNat]? = some x ∧ x ∈ xs := ⟨xs[i.toNat]'(by omega), List.getElem?_eq_getElem _, List.getElem_mem _⟩
end PX

namespace PX
open PySem PySem.Spec PyProof.Rows L2
theorem seqK_nx {Ex : Nat → Env → Prop} {n : M Fl} {K : Fl → Env → Prop} {Γ : Env} : seqK Ex n K .nx Γ = Sat Ex n Γ K := rfl
theorem seqK_rt {Ex : Nat → Env → Prop} {n : M Fl} {K : Fl → Env → Prop} {Γ : Env} {d : D} : seqK Ex n K (.rt d) Γ = K (.rt d) Γ := rfl
theorem turnK_nx {I : Env → Prop} {K : Fl → Env → Prop} {Γ : Env} : turnK I K .nx Γ = I Γ := rfl
theorem turnK_ct {I : Env → Prop} {K : Fl → Env → Prop} {Γ : Env} : turnK I K .ct Γ = I Γ := rfl
theorem fz_int (i : Int) : fz (.int i) = .int i := by unfold fz; rfl
theorem fz_bl (b : Bool) : fz (.bl b) = .bl b := by unfold fz; rfl
theorem fz_non : fz .non = .non := by unfold fz; rfl
theorem fz_tup (ds : List D) : fz (.tup ds) = .tup (fzs ds) := by simp only [fz]
theorem fz_lst (o : Bool) (ds : List D) : fz (.lst o ds) = .lst false (fzs ds) := by simp only [fz]
theorem cln_int (i : Int) : cln (.int i) = true := by unfold cln; rfl
theorem clns_nil : clns [] = true := by unfold clns; rfl
theorem clns_cons (d : D) (ds : List D) : clns (d :: ds) = (cln d && clns ds) := by rw [clns]
theorem cln_tup (ds : List D) : cln (.tup ds) = clns ds := by rw [cln]
theorem cln_lst (o : Bool) (ds : List D) : cln (.lst o ds) = (!o && clns ds) := by rw [cln]
/-! izs -/
abbrev izs (xs : List Int) : List D := xs.map .int
theorem clns_izs (xs : List Int) : clns (izs xs) = true := by
  induction xs with
  | nil => exact clns_nil
  | cons x xs ih => rw [izs, List.map_cons, clns_cons, cln_int]; exact ih
theorem fzs_izs (xs : List Int) : fzs (izs xs) = izs xs := fzs_id _ (clns_izs xs)
theorem izs_set (xs : List Int) (j : Nat) (x : Int) : (izs xs).set j (.int x) = izs (xs.set j x) := by simp only [izs, List.map_set]
theorem izs_app (xs : List Int) (x : Int) : izs xs ++ [.int x] = izs (xs ++ [x]) := by simp only [izs, List.map_append, List.map_cons, List.map_nil]
theorem atI_izs {xs : List Int} {i : Int} (h0 : 0 ≤ i) (h1 : i < xs.length) : ∃ x, xs[i.toNat]? = some x ∧ x ∈ xs ∧ L2.atI (izs xs) i = some (.int x) := by
  obtain ⟨x, e, m⟩ := at_lt h0 h1
  exact ⟨x, e, m, atI_nat h0 (by simp only [izs, List.getElem?_map, e, Option.map_some])⟩
section
variable {k : D → Prop}
theorem ew_ii {C : Int → Int → Bool} {g : Int → Int → Int} {i j : Int} (hc : C i j = true) (h : k (.int (g i j))) : ∃ z, gC (iiI C g) (fz (.int i)) (fz (.int j)) = some z ∧ k z := ⟨_, by unfold gC iiI; simp only [fz, hc, if_true, cln], h⟩
theorem ew_iB {f : Int → Int → Bool} {i j : Int} (h : k (.bl (f i j))) : ∃ z, gC (iiB f) (fz (.int i)) (fz (.int j)) = some z ∧ k z := ⟨_, rfl, h⟩
theorem ew_add {i j : Int} (h : k (.int (i + j))) : ∃ z, addX (fz (.int i)) (fz (.int j)) = some z ∧ k z := ⟨_, rfl, h⟩
theorem ew_mul {i j : Int} (hc : cMul i j = true) (h : k (.int (i * j))) : ∃ z, mulX (fz (.int i)) (fz (.int j)) = some z ∧ k z := ⟨_, by show iiI cMul _ (.int i) (.int j) = _; unfold iiI; simp only [hc, if_true], h⟩
theorem ew_neg {i : Int} (h : k (.int (-i))) : ∃ z, negX (fz (.int i)) = some z ∧ k z := ⟨_, rfl, h⟩
theorem ey_ii {C : Int → Int → Bool} {g : Int → Int → Int} {i j : Int} (hc : C i j = true) (h : k (.int (g i j))) : ∃ z, gC (iiI C g) (.int i) (.int j) = some z ∧ k z := ⟨_, by unfold gC iiI; simp only [hc, if_true, cln], h⟩
theorem ey_iB {f : Int → Int → Bool} {i j : Int} (h : k (.bl (f i j))) : ∃ z, gC (iiB f) (.int i) (.int j) = some z ∧ k z := ⟨_, rfl, h⟩
theorem ey_add {i j : Int} (h : k (.int (i + j))) : ∃ z, addX (.int i) (.int j) = some z ∧ k z := ⟨_, rfl, h⟩
theorem ey_mul {i j : Int} (hc : cMul i j = true) (h : k (.int (i * j))) : ∃ z, mulX (.int i) (.int j) = some z ∧ k z := ⟨_, by show iiI cMul _ (.int i) (.int j) = _; unfold iiI; simp only [hc, if_true], h⟩
theorem ey_neg {i : Int} (h : k (.int (-i))) : ∃ z, negX (.int i) = some z ∧ k z := ⟨_, rfl, h⟩
end
theorem atI_z {α : Type} {x : α} {xs : List α} : L2.atI (x :: xs) 0 = some x := by
  unfold L2.atI L2.ixN
  simp
theorem atI_1 {α : Type} {x y : α} {xs : List α} : L2.atI (x :: y :: xs) 1 = some y := atI_nat (by omega) rfl
theorem atI_2 {α : Type} {x y z : α} {xs : List α} : L2.atI (x :: y :: z :: xs) 2 = some z := atI_nat (by omega) rfl
/-- a def is entered -/
theorem Q.start {n : Nat} {rp : List Nat} {mb : M Fl} {ds : List D} {Γ : Env} {P : D → List D → Prop} (e : entry n ds = Γ) (h : Sat nE mb Γ (RetK rp P)) : Ret (runF n rp mb ds) P := runF_ret (by rw [e]; exact h)
theorem sq_le {c : Int} (h0 : 0 ≤ c) (h1 : c ≤ 1000001) : 0 ≤ 104729 * c * c ∧ 104729 * c * c ≤ 104729104729000000 + 104729104729 := by
  have a : c * c ≤ 1000001 * 1000001 := Int.mul_le_mul h1 h1 h0 (by omega)
  have b : 0 ≤ c * c := Int.mul_nonneg h0 h0
  rw [Int.mul_assoc]
  omega
theorem retK_rt {rp : List Nat} {P : D → List D → Prop} {d : D} {Γ : Env} {os : List D} (e : outs rp Γ = some os) (h : P d os) : RetK rp P (.rt d) Γ := ⟨os, e, h⟩
end PX

namespace PX
open PySem PySem.Spec PyProof.Rows L2
/-! ### data of ints and of pairs of ints -/
abbrev edgeD (e : Int × Int) : D := .tup [.int e.1, .int e.2]
abbrev eds (es : List (Int × Int)) : List D := es.map edgeD
theorem cln_edge (e : Int × Int) : cln (edgeD e) = true := rfl
theorem clns_map {α : Type} {f : α → D} (h : ∀ a, cln (f a) = true) : ∀ l : List α, clns (l.map f) = true
  | [] => clns_nil
  | a :: l => by rw [List.map_cons, clns_cons, h a, clns_map h l]; rfl
theorem clns_eds (es : List (Int × Int)) : clns (eds es) = true := clns_map cln_edge es
theorem fzs_eds (es : List (Int × Int)) : fzs (eds es) = eds es := fzs_id _ (clns_eds es)
theorem fzs_nil : fzs [] = [] := by rw [fzs]
theorem fzs_cons (d : D) (ds : List D) : fzs (d :: ds) = fz d :: fzs ds := by rw [fzs]
theorem repr {α : Type} {f : α → D} {P : α → Prop} : ∀ {l : List D}, (∀ d ∈ l, ∃ e, d = f e ∧ P e) → ∃ es : List α, l = es.map f ∧ ∀ e ∈ es, P e
  | [], _ => ⟨[], rfl, fun _ m => nomatch m⟩
  | d :: l, h => by
    obtain ⟨e, rfl, pe⟩ := h d (.head _)
    obtain ⟨es, rfl, pes⟩ := repr fun d m => h d (.tail _ m)
    exact ⟨e :: es, rfl, fun x m => by cases m with | head => exact pe | tail _ m => exact pes x m⟩
/-! plain data -/
theorem pys_izs (xs : List Int) : pys (izs xs) = xs.map .int := by
  rw [pys_map, izs, List.map_map]
  rfl
theorem plainA : ∀ (ds : List PyData), (∀ d ∈ ds, d.plain = true) → PyData.plainAll ds = true
  | [], _ => by simp only [PyData.plainAll]
  | d :: ds, h => by
    simp only [PyData.plainAll, h d (.head _), plainA ds fun x m => h x (.tail _ m), Bool.and_self]
theorem depthA {n : Nat} : ∀ (ds : List PyData), (∀ d ∈ ds, d.depth ≤ n) → PyData.depthAll ds ≤ n
  | [], _ => by simp only [PyData.depthAll]; exact Nat.zero_le _
  | d :: ds, h => by
    simp only [PyData.depthAll]
    exact Nat.max_le.mpr ⟨h d (.head _), depthA ds fun x m => h x (.tail _ m)⟩
structure Pl (n : Nat) (d : D) : Prop where
  p : (py d).plain = true
  d : (py d).depth ≤ n
theorem Pl.ok {n : Nat} {d : D} (h : Pl n d) (l : n ≤ 64) : okD d = true := by
  unfold okD
  simp only [h.p, Bool.true_and, decide_eq_true_eq]
  exact Nat.le_trans h.d l
theorem pl_int (i : Int) : Pl 0 (.int i) := ⟨by simp only [py, PyData.plain], by simp only [py, PyData.depth]; exact Nat.le_refl _⟩
theorem pl_bl (b : Bool) : Pl 0 (.bl b) := ⟨by simp only [py, PyData.plain], by simp only [py, PyData.depth]; exact Nat.le_refl _⟩
theorem pl_str (s : Str) : Pl 0 (.str s) := ⟨by simp only [py, PyData.plain], by simp only [py, PyData.depth]; exact Nat.le_refl _⟩
theorem pl_non : Pl 0 .non := ⟨by simp only [py, PyData.plain], by simp only [py, PyData.depth]; exact Nat.le_refl _⟩
theorem Pl.le {n m : Nat} {d : D} (h : Pl n d) (l : n ≤ m) : Pl m d := ⟨h.p, Nat.le_trans h.d l⟩
theorem pl_seq {n : Nat} {ds : List D} (h : ∀ d ∈ ds, Pl n d) : PyData.plainAll (pys ds) = true ∧ PyData.depthAll (pys ds) ≤ n := by
  rw [pys_map]
  exact ⟨plainA _ fun x m => by obtain ⟨d, hd, rfl⟩ := List.mem_map.mp m; exact (h d hd).p, depthA _ fun x m => by obtain ⟨d, hd, rfl⟩ := List.mem_map.mp m; exact (h d hd).d⟩
theorem pl_tup {n : Nat} {ds : List D} (h : ∀ d ∈ ds, Pl n d) : Pl (n + 1) (.tup ds) := ⟨by simp only [py, PyData.plain]; exact (pl_seq h).1, by simp only [py, PyData.depth]; exact Nat.succ_le_succ (pl_seq h).2⟩
theorem pl_lst {n : Nat} {o : Bool} {ds : List D} (h : ∀ d ∈ ds, Pl n d) : Pl (n + 1) (.lst o ds) := ⟨by simp only [py, PyData.plain]; exact (pl_seq h).1, by simp only [py, PyData.depth]; exact Nat.succ_le_succ (pl_seq h).2⟩
theorem pl_izs {xs : List Int} : ∀ d ∈ izs xs, Pl 0 d := fun d m => by obtain ⟨x, _, rfl⟩ := List.mem_map.mp m; exact pl_int x
theorem pl_map {α : Type} {n : Nat} {f : α → D} (h : ∀ a, Pl n (f a)) {l : List α} : ∀ d ∈ l.map f, Pl n d := fun d m => by obtain ⟨x, _, rfl⟩ := List.mem_map.mp m; exact h x
theorem pl_edge (e : Int × Int) : Pl 1 (edgeD e) := pl_tup fun d m => by
  cases m with
  | head => exact pl_int _
  | tail _ m => cases m with
    | head => exact pl_int _
    | tail _ m => cases m
/-! equal data -/
theorem eqv_int (i j : Int) : PyData.eqv (.int i) (.int j) = (i == j) := by simp only [PyData.eqv]
theorem eqvA_izs : ∀ (xs ys : List Int), PyData.eqvAll (xs.map .int) (ys.map .int) = decide (xs = ys)
  | [], [] => by simp [PyData.eqvAll]
  | [], _ :: _ => by simp [PyData.eqvAll]
  | _ :: _, [] => by simp [PyData.eqvAll]
  | x :: xs, y :: ys => by
    simp only [List.map_cons, PyData.eqvAll, eqv_int, eqvA_izs xs ys, List.cons.injEq, Bool.decide_and]
    rfl
theorem eqX_int (i j : Int) : eqX (.int i) (.int j) = some (.bl (decide (i = j))) := by
  unfold eqX
  simp only [(pl_int i).ok (Nat.zero_le _), (pl_int j).ok (Nat.zero_le _), py, eqv_int, Bool.and_self, if_true]
  rfl
theorem neX_int (i j : Int) : neX (.int i) (.int j) = some (.bl (!decide (i = j))) := by
  unfold neX
  simp only [(pl_int i).ok (Nat.zero_le _), (pl_int j).ok (Nat.zero_le _), py, eqv_int, Bool.and_self, if_true]
  rfl
theorem eqX_lst (o o' : Bool) (xs ys : List Int) : eqX (.lst o (izs xs)) (.lst o' (izs ys)) = some (.bl (decide (xs = ys))) := by
  unfold eqX
  simp only [(pl_lst (o := o) (pl_izs (xs := xs))).ok (by omega), (pl_lst (o := o') (pl_izs (xs := ys))).ok (by omega), py, pys_izs, PyData.eqv, eqvA_izs, Bool.and_self, if_true]
theorem neX_lst (o o' : Bool) (xs ys : List Int) : neX (.lst o (izs xs)) (.lst o' (izs ys)) = some (.bl (!decide (xs = ys))) := by
  unfold neX
  simp only [(pl_lst (o := o) (pl_izs (xs := xs))).ok (by omega), (pl_lst (o := o') (pl_izs (xs := ys))).ok (by omega), py, pys_izs, PyData.eqv, eqvA_izs, Bool.and_self, if_true]
theorem neX_lst0 (o o' : Bool) (xs : List Int) : neX (.lst o (izs xs)) (.lst o' []) = some (.bl (!decide (xs = []))) := neX_lst o o' xs []
theorem eqX_lst0 (o o' : Bool) (xs : List Int) : eqX (.lst o (izs xs)) (.lst o' []) = some (.bl (decide (xs = []))) := eqX_lst o o' xs []
theorem neX_bl (a b : Bool) : neX (.bl a) (.bl b) = some (.bl (a != b)) := by
  unfold neX
  simp only [(pl_bl a).ok (Nat.zero_le _), (pl_bl b).ok (Nat.zero_le _), py, PyData.eqv, Bool.and_self, if_true]
  rfl
theorem eqX_bl (a b : Bool) : eqX (.bl a) (.bl b) = some (.bl (a == b)) := by
  unfold eqX
  simp only [(pl_bl a).ok (Nat.zero_le _), (pl_bl b).ok (Nat.zero_le _), py, PyData.eqv, Bool.and_self, if_true]
/-! sorted -/
theorem alike_int (i j : Int) : PySem.W.alike (.int i) (.int j) = true := by simp only [PySem.W.alike]
theorem all_map {α : Type} {f : α → D} {p : D → Bool} (h : ∀ a, p (f a) = true) (l : List α) : (l.map f).all p = true := List.all_eq_true.mpr fun d m => by obtain ⟨a, _, rfl⟩ := List.mem_map.mp m; exact h a
theorem alikeB_map {α : Type} {f : α → D} (h : ∀ a b, PySem.W.alike (py (f a)) (py (f b)) = true) (l : List α) : alikeB (l.map f) = true := all_map (fun a => all_map (fun b => h a b) l) l
def leE (a b : Int × Int) : Bool := sortKey (edgeD a) (edgeD b)
theorem sortB_izs (xs : List Int) : sortB (izs xs) = true := Bool.or_eq_true_iff.mpr (.inr (all_map (fun _ => rfl) xs))
theorem sortB_eds (xs : List (Int × Int)) : sortB (eds xs) = true := Bool.or_eq_true_iff.mpr (.inl (all_map (fun _ => rfl) xs))
theorem sorted_izs {d : D} {xs : List Int} (h : colD d = some (izs xs)) : ∃ ys, sortedX [d] = some (.lst true (izs ys)) ∧ ys.Perm xs := by
  refine ⟨xs.mergeSort fun a b => sortKey (.int a) (.int b), ?_, List.mergeSort_perm _ _⟩
  unfold sortedX
  simp only [h]
  rw [if_pos, izs, izs, List.map_mergeSort (r := fun a b => sortKey (.int a) (.int b)) (s := sortKey) fun a _ b _ => rfl]
  rw [all_map fun a => (pl_int a).ok (Nat.zero_le _), alikeB_map fun a b => by simp only [py, PySem.W.alike]]
  rw [sortB_izs]
  rfl
theorem sorted_eds {d : D} {xs : List (Int × Int)} (h : colD d = some (eds xs)) : ∃ ys, sortedX [d] = some (.lst true (eds ys)) ∧ ys.Perm xs := by
  refine ⟨xs.mergeSort leE, ?_, List.mergeSort_perm _ _⟩
  unfold sortedX
  simp only [h]
  rw [if_pos, eds, eds, List.map_mergeSort (r := leE) (s := sortKey) fun a _ b _ => rfl]
  rw [all_map fun a => (pl_edge a).ok (by omega), alikeB_map fun a b => by simp only [py, pys, PySem.W.alike, PySem.W.alikeAll, Bool.and_self]]
  rw [sortB_eds]
  rfl
/-! dicts by pairs -/
theorem keyOk_edge (e : Int × Int) : keyOk true (edgeD e) = true := by
  unfold keyOk
  have := keysD_map [.inl e.1, .inl e.2]
  rw [show edgeD e = .tup ([Sum.inl e.1, .inl e.2].map kD) from rfl]
  simp only [keysD_map, Option.isSome_some, Bool.and_self]
theorem sameK_edge (a b : Int × Int) : sameK (edgeD a) (edgeD b) = decide (a = b) := by
  rw [show edgeD a = .tup ([Sum.inl a.1, .inl a.2].map kD) from rfl, show edgeD b = .tup ([Sum.inl b.1, .inl b.2].map kD) from rfl, sameK_t]
  obtain ⟨a1, a2⟩ := a
  obtain ⟨b1, b2⟩ := b
  simp
theorem sameK_int (i j : Int) : sameK (.int i) (.int j) = decide (i = j) := by unfold sameK; rfl
theorem store_edge {es : List (Int × Int)} {xs : List D} {e : Int × Int} {v : D} (hl : es.length < sizeLine) (hx : xs.length = es.length) : ∃ es' xs', storeD (.dic true true (eds es) xs) [edgeD e, v] = some (.dic true true (eds es') xs', .non) ∧ (es' = es ∨ es' = es ++ [e]) ∧ xs'.length = es'.length := by
  unfold storeD
  simp only [keyOk_edge, List.length_map, hl, and_self, if_true]
  cases findI (edgeD e) (eds es) with
  | some j => exact ⟨es, xs.set j v, rfl, .inl rfl, by rw [List.length_set]; exact hx⟩
  | none => exact ⟨es ++ [e], xs ++ [v], by simp only [eds, List.map_append]; rfl, .inr rfl, by simp only [List.length_append, hx, List.length_cons, List.length_nil]⟩
end PX

namespace PX
open PySem PySem.Spec PyProof.Rows L2
theorem filterMap_if {α β : Type} (c : α → Bool) (f : α → β) : ∀ ds : List α, ds.filterMap (fun x => if c x then some (f x) else none) = (ds.filter c).map f
  | [] => rfl
  | x :: ds => by
    rw [List.filterMap_cons, List.filter_cons]
    cases c x with
    | true => simp only [if_true, List.map_cons, filterMap_if c f ds]
    | false => simp only [Bool.false_eq_true, if_false, filterMap_if c f ds]
section
variable {Γ : Env} {k : D → Env → Prop}
/-- a comprehension without a test -/
theorem Q.lcF {it : M (List D)} {n : Nat} {vs : List Nat} {g : D → M Unit} {e : M D}
    (h : Sat nE it Γ fun ds Γ1 => savedOk Γ1 vs = true ∧ ds.length ≤ sizeLine ∧ ∃ f : D → D,
      (∀ d ∈ ds, Sat nE (g d) (wip Γ1 vs) fun _ Γ2 => Γ2.length = n ∧ Sat nE e Γ2 fun y' Γ4 => y' = f d ∧ wip Γ4 vs = wip Γ1 vs) ∧ k (.lst true (ds.map f)) (resto Γ1 (wip Γ1 vs) vs)) : Sat nE (mLc it n vs g (pure true) e) Γ k :=
  Q.lcM (h.imp fun ds Γ1 ⟨a, b, f, c, d⟩ => ⟨a, b, fun x => some (f x), fun x m => (c x m).imp fun _ Γ2 ⟨l, q⟩ => ⟨l, ⟨rfl, q⟩⟩, by rw [show (fun x => some (f x)) = some ∘ f from rfl, List.filterMap_eq_map]; exact d⟩)
/-- .. with a test that is only read, of what is only read -/
theorem Q.lcT {it : M (List D)} {n : Nat} {vs : List Nat} {g : D → M Unit} {t : M Bool} {e : M D}
    (h : Sat nE it Γ fun ds Γ1 => savedOk Γ1 vs = true ∧ ds.length ≤ sizeLine ∧ ∃ (c : D → Bool) (f : D → D),
      (∀ d ∈ ds, Sat nE (g d) (wip Γ1 vs) fun _ Γ2 => Γ2.length = n ∧ Sat nE t Γ2 fun b Γ3 => b = c d ∧ if b = true then Sat nE e Γ3 (fun y' Γ4 => y' = f d ∧ wip Γ4 vs = wip Γ1 vs) else wip Γ3 vs = wip Γ1 vs) ∧ k (.lst true ((ds.filter c).map f)) (resto Γ1 (wip Γ1 vs) vs)) : Sat nE (mLc it n vs g t e) Γ k :=
  Q.lcM (h.imp fun ds Γ1 ⟨a, b, c, f, q, d⟩ => ⟨a, b, fun x => if c x then some (f x) else none, fun x m => (q x m).imp fun _ Γ2 ⟨l, q⟩ => ⟨l, q.imp fun y Γ3 ⟨e1, q⟩ => by
    cases hc : c x with
    | true =>
      rw [hc] at e1
      subst e1
      rw [if_pos rfl] at q
      simp only [hc, if_true]
      exact ⟨trivial, q⟩
    | false =>
      rw [hc] at e1
      subst e1
      rw [if_neg Bool.false_ne_true] at q
      simp only [hc, Bool.false_eq_true, if_false]
      exact ⟨trivial, q⟩⟩, by rw [filterMap_if]; exact d⟩)
theorem Q.truP {k : Bool → Env → Prop} (h : k true Γ) : Sat nE (pure true) Γ k := h
/-- what is tested only once -/
theorem Q.mbl {m : M D} {kb : Bool → Env → Prop} (h : Sat nE m Γ fun d Γ1 => ∃ z, blX d = some z ∧ kb z Γ1) : Sat nE (mBl m) Γ kb := Sat.bind.mpr (h.imp fun d Γ1 q => Sat.mO.mpr q)
theorem Q.mtru {m : M D} {kb : Bool → Env → Prop} (h : Sat nE m Γ fun d Γ1 => ∃ z, truD d = some z ∧ kb z Γ1) : Sat nE (mTru m) Γ kb := Sat.bind.mpr (h.imp fun d Γ1 q => Sat.mO.mpr q)
theorem Q.mnot {m : M Bool} {kb : Bool → Env → Prop} (h : Sat nE m Γ fun d Γ1 => kb (!d) Γ1) : Sat nE (mNotB m) Γ kb := Sat.bind.mpr h
theorem Q.mor {m n : M Bool} {kb : Bool → Env → Prop} (h : Sat nE m Γ fun c Γ1 => if c = true then kb true Γ1 else Sat nE n Γ1 kb) : Sat nE (mOrB m n) Γ kb := Sat.bind.mpr (h.imp fun c Γ1 q => by cases c <;> exact q)
theorem Q.mand {m n : M Bool} {kb : Bool → Env → Prop} (h : Sat nE m Γ fun c Γ1 => if c = true then Sat nE n Γ1 kb else kb false Γ1) : Sat nE (mAndB m n) Γ kb := Sat.bind.mpr (h.imp fun c Γ1 q => by cases c <;> exact q)
end
theorem mem_rng {lo : Int} {n : Nat} {d : D} (h : d ∈ rngD lo n) : ∃ i : Nat, d = .int (lo + i) ∧ i < n := by
  obtain ⟨i, hi, rfl⟩ := List.mem_map.mp h
  exact ⟨i, rfl, List.mem_range.mp hi⟩
theorem rng_get {lo : Int} {n i : Nat} {d : D} (h : (rngD lo n)[i]? = some d) : d = .int (lo + i) ∧ i < n := by
  unfold rngD at h
  rw [List.getElem?_map] at h
  obtain ⟨j, hj, rfl⟩ := Option.map_eq_some_iff.mp h
  obtain ⟨hl, rfl⟩ := List.getElem?_eq_some_iff.mp hj
  simp only [List.length_range] at hl
  exact ⟨by rw [List.getElem_range], hl⟩
theorem rng_map {α : Type} {lo : Int} {n : Nat} {f : D → D} {g : α → D} {h : Nat → α} (e : ∀ i, i < n → f (.int (lo + i)) = g (h i)) : (rngD lo n).map f = ((List.range n).map h).map g := by
  unfold rngD
  rw [List.map_map, List.map_map]
  exact List.map_congr_left fun i hi => e i (List.mem_range.mp hi)
theorem big_ok {j : Int} (h0 : -1000000000 ≤ j) (h1 : j ≤ 1000000000) : big j = true := by
  unfold big
  rw [Bool.and_eq_true]
  exact ⟨decide_eq_true (by omega), decide_eq_true (by omega)⟩
/-! ### places of lists -/
theorem ixN_nat {n : Nat} {i : Int} (h0 : 0 ≤ i) (h1 : i < n) : L2.ixN n i = some i.toNat := by
  unfold L2.ixN
  rw [if_pos h0, if_pos (by omega)]
theorem getAt_lst {ds : List D} {i : Int} {c : D} (h0 : 0 ≤ i) (h : ds[i.toNat]? = some c) (ks : List D) : getAt (.lst true ds) (.int i :: ks) = getAt c ks := by
  have hl := (List.getElem?_eq_some_iff.mp h).1
  rw [getAt, subIx, ixN_nat h0 (by omega)]
  simp only [kids, h]
theorem setAt_lst {ds : List D} {i : Int} {c c' e : D} {ks : List D} (h0 : 0 ≤ i) (h : ds[i.toNat]? = some c) (h2 : setAt c ks e = some c') : setAt (.lst true ds) (.int i :: ks) e = some (.lst true (ds.set i.toNat c')) := by
  have hl := (List.getElem?_eq_some_iff.mp h).1
  rw [setAt, subIx, ixN_nat h0 (by omega)]
  simp only [kids, h, h2, setKid]
abbrev lsts (L : List (List Int)) : List D := L.map fun l => .lst true (izs l)
theorem lsts_at {L : List (List Int)} {i : Int} (h0 : 0 ≤ i) (h1 : i < L.length) : ∃ l, L[i.toNat]? = some l ∧ l ∈ L ∧ (lsts L)[i.toNat]? = some (.lst true (izs l)) ∧ getAt (.lst true (lsts L)) [.int i] = some (.lst true (izs l)) ∧ ∀ l', setAt (.lst true (lsts L)) [.int i] (.lst true (izs l')) = some (.lst true (lsts (L.set i.toNat l'))) := by
  obtain ⟨l, e, m⟩ := at_lt h0 h1
  have e2 : (lsts L)[i.toNat]? = some (.lst true (izs l)) := by simp only [lsts, List.getElem?_map, e, Option.map_some]
  exact ⟨l, e, m, e2, (getAt_lst h0 e2 []).trans (by rw [getAt]), fun l' => by rw [setAt_lst h0 e2 (setAt_nil _ _), lsts, lsts, List.map_set]⟩
theorem append_izs {l : List Int} {x : Int} (h : l.length < sizeLine) : appendD (.lst true (izs l)) [.int x] = some (.lst true (izs (l ++ [x])), .non) := by
  unfold appendD
  simp only [List.length_map, h, if_true, izs_app]
theorem store_izs {l : List Int} {i x : Int} (h0 : 0 ≤ i) (h1 : i < l.length) : storeD (.lst true (izs l)) [.int i, .int x] = some (.lst true (izs (l.set i.toNat x)), .non) := by
  unfold storeD
  simp only [List.length_map, ixN_nat h0 h1, izs_set]
theorem mem_set {α : Type} {L : List α} {i : Nat} {a x : α} (h : x ∈ L.set i a) : x = a ∨ x ∈ L := by
  rcases List.mem_or_eq_of_mem_set h with h | h
  · exact .inr h
  · exact .inl h
theorem size_ok {n : Nat} (h : n ≤ 10000000) : n < sizeLine := Nat.lt_of_le_of_lt h (Nat.lt_of_lt_of_le (by omega : 10000000 < 10000001) (Nat.le_of_ble_eq_true (show Nat.ble 10000001 sizeLine = true from rfl)))
theorem size_le {n : Nat} (h : n ≤ 10000000) : n ≤ sizeLine := Nat.le_of_lt (size_ok h)

abbrev webD (n : Int) (es : List (Int × Int)) : D := .tup [.int n, .tup (eds es)]
theorem gsub_izs {o : Bool} {xs : List Int} {i : Int} (h0 : 0 ≤ i) (h1 : i < xs.length) : ∃ x, xs[i.toNat]? = some x ∧ x ∈ xs ∧ gC subX (.lst o (izs xs)) (.int i) = some (.int x) := by
  obtain ⟨x, a, m, e⟩ := atI_izs h0 h1
  refine ⟨x, a, m, ?_⟩
  unfold gC subX
  simp only [e, cln, if_true]
theorem getEds {es : List (Int × Int)} {i : Nat} {d : D} (h : (eds es)[i]? = some d) : ∃ e, es[i]? = some e ∧ d = edgeD e ∧ e ∈ es ∧ i < es.length := by
  rw [eds, List.getElem?_map] at h
  obtain ⟨e, h1, rfl⟩ := Option.map_eq_some_iff.mp h
  exact ⟨e, h1, rfl, List.mem_of_getElem? h1, (List.getElem?_eq_some_iff.mp h1).1⟩
theorem getIzs {xs : List Int} {i : Nat} {d : D} (h : (izs xs)[i]? = some d) : ∃ e, xs[i]? = some e ∧ d = .int e ∧ e ∈ xs ∧ i < xs.length := by
  rw [izs, List.getElem?_map] at h
  obtain ⟨e, h1, rfl⟩ := Option.map_eq_some_iff.mp h
  exact ⟨e, h1, rfl, List.mem_of_getElem? h1, (List.getElem?_eq_some_iff.mp h1).1⟩
theorem fz_dic (o t : Bool) (ks ds : List D) : fz (.dic o t ks ds) = .dic false t ks (fzs ds) := by simp only [fz]
theorem set_eq {α : Type} : ∀ {l : List α} {i : Nat} {a : α}, l[i]? = some a → l.set i a = l
  | x :: l, 0, a, h => by cases h; rfl
  | x :: l, i + 1, a, h => by rw [List.set_cons_succ, set_eq (show l[i]? = some a from h)]
theorem pVar_of {Γ : Env} {i : Nat} {d : D} (h : Γ[i]? = some (some d)) : pVar i Γ = some d := by unfold pVar; rw [h]
/-- a name's thing, given up -/
theorem Q.valv {Ex : Nat → Env → Prop} {Γ : Env} {k : D → Env → Prop} {i : Nat} {d : D} (hi : Γ[i]? = some (some d)) (h : k (fz d) (Γ.set i (some (fz d)))) : Sat Ex (mVal (some i) (pVar i)) Γ k := by
  cases hc : cln d with
  | true =>
    rw [fz_id d hc, set_eq hi] at h
    exact Q.val (pVar_of hi) hc h
  | false =>
    have hl := (List.getElem?_eq_some_iff.mp hi).1
    exact Q.valz (pVar_of hi) hc hi (pVar_of (by rw [List.getElem?_set_self hl])) (fz_cln d) h
theorem all_bls {α : Type} {o : Bool} {l : List α} {g : α → D} {f : α → Bool} (h : ∀ x ∈ l, g x = .bl (f x)) : allX [.lst o (l.map g)] = some (.bl (l.all f)) := by
  have e : l.map g = (l.map f).map .bl := by rw [List.map_map]; exact List.map_congr_left h
  show boolsX _ _ = _
  unfold boolsX
  simp only [lstD, e, blsD_map, List.all_map]
  rfl
theorem any_bls {α : Type} {o : Bool} {l : List α} {g : α → D} {f : α → Bool} (h : ∀ x ∈ l, g x = .bl (f x)) : anyX [.lst o (l.map g)] = some (.bl (l.any f)) := by
  have e : l.map g = (l.map f).map .bl := by rw [List.map_map]; exact List.map_congr_left h
  show boolsX _ _ = _
  unfold boolsX
  simp only [lstD, e, blsD_map, List.any_map]
  rfl
/-- a test whose answer is known -/
theorem Q.ifC {Ex : Nat → Env → Prop} {Γ : Env} {K : Fl → Env → Prop} {t : M Bool} {a b : M Fl} (c : Bool) (Γ' : Env) (h : Sat Ex t Γ fun b Γ1 => b = c ∧ Γ1 = Γ') (h1 : c = true → Sat Ex a Γ' K) (h2 : c = false → Sat Ex b Γ' K) : Sat Ex (mIf t a b) Γ K :=
  Q.ifS (h.imp fun b Γ1 ⟨e1, e2⟩ => by
    subst e1 e2
    cases b with
    | true => exact h1 rfl
    | false => exact h2 rfl)
theorem fzs_bls {α : Type} {l : List α} {g : α → D} {f : α → Bool} (h : ∀ x ∈ l, g x = .bl (f x)) : fzs (l.map g) = l.map g := fzs_id _ (by
  rw [List.map_congr_left h]
  exact clns_map (f := fun x => .bl (f x)) (fun _ => by simp only [cln]) l)
theorem all_blsF {α : Type} {o : Bool} {l : List α} {g : α → D} {f : α → Bool} (h : ∀ x ∈ l, g x = .bl (f x)) : allX [.lst o (fzs (l.map g))] = some (.bl (l.all f)) := by rw [fzs_bls h, all_bls h]
theorem any_blsF {α : Type} {o : Bool} {l : List α} {g : α → D} {f : α → Bool} (h : ∀ x ∈ l, g x = .bl (f x)) : anyX [.lst o (fzs (l.map g))] = some (.bl (l.any f)) := by rw [fzs_bls h, any_bls h]
theorem not_t {b : Bool} (h : (!b) = true) : b = false := by
  cases b with
  | true => cases h
  | false => rfl
theorem not_f {b : Bool} (h : (!b) = false) : b = true := by
  cases b with
  | true => rfl
  | false => cases h
theorem maxI_eq (i j : Int) : maxI i j = max i j := by unfold maxI; split <;> omega
theorem minI_eq (i j : Int) : minI i j = min i j := by unfold minI; split <;> omega
theorem izs_len (xs : List Int) : (izs xs).length = xs.length := List.length_map ..
/-- what is not to be taken apart -/
@[irreducible] def Hold (p : Prop) : Prop := p
theorem hold {p : Prop} (h : p) : Hold p := by
  unfold Hold
  exact h
theorem Hold.get {p : Prop} (h : Hold p) : p := by
  unfold Hold at h
  exact h
theorem cutH {α : Type} {m : M α} {Γ : Env} {K : α → Env → Prop} (P : α → Env → Prop) (h : Sat nE m Γ fun f Γ1 => Hold (P f Γ1)) (i : ∀ f Γ1, P f Γ1 → K f Γ1) : Sat nE m Γ K := h.imp fun f Γ1 q => i f Γ1 q.get
theorem Q.subI {Ex : Nat → Env → Prop} {Γ : Env} {k : D → Env → Prop} {i : Nat} {mi : M D} {d0 : D} (h1 : Γ[i]? = some (some d0)) (h : Sat Ex mi Γ fun kk Γ1 => Sat Ex (mVal (some i) (pOp2 subX (pVar i) (pCst (fz kk)))) Γ1 k) : Sat Ex (mSubI i mi) Γ k := by
  refine Sat.bind.mpr ?_
  unfold Sat mAt
  rw [h1]
  exact Sat.bind.mpr h
end PX

namespace PX
open PySem PySem.Spec PyProof.Rows L2
theorem py_izs_any (xs : List Int) (h : Int) : ((izs xs).any fun z => PyData.eqv (py z) (.int h)) = decide (h ∈ xs) := by
  induction xs with
  | nil => rfl
  | cons x xs ih =>
    rw [izs, List.map_cons, List.any_cons]
    rw [show (List.map D.int xs).any (fun z => PyData.eqv (py z) (.int h)) = decide (h ∈ xs) from ih]
    simp only [py, eqv_int, List.mem_cons, Bool.decide_or]
    congr 1
    by_cases e : x = h
    · subst e; simp
    · rw [decide_eq_false (fun z => e z.symm)]; simpa using e
theorem in_izs (ne : Bool) (h : Int) (o : Bool) (xs : List Int) : inX2 ne (.int h) (.lst o (izs xs)) = some (.bl (ne ^^ decide (h ∈ xs))) := by
  unfold inX2 inX
  have q : py (.int h) = .int h := by simp only [py]
  simp only [(pl_int h).ok (Nat.zero_le _), (pl_lst (o := o) (pl_izs (xs := xs))).ok (by omega), Bool.and_self, if_true, q, py_izs_any]
theorem in_tup (ne : Bool) (h : Int) (xs : List Int) : inX2 ne (.int h) (.tup (izs xs)) = some (.bl (ne ^^ decide (h ∈ xs))) := by
  unfold inX2 inX
  have q : py (.int h) = .int h := by simp only [py]
  simp only [(pl_int h).ok (Nat.zero_le _), (pl_tup (pl_izs (xs := xs))).ok (by omega), Bool.and_self, if_true, q, py_izs_any]
/-- lists of lists, one's own or given up -/
abbrev lsO (o : Bool) (L : List (List Int)) : D := .lst o (L.map fun l => .lst o (izs l))
theorem fz_lsO (o : Bool) (L : List (List Int)) : fz (lsO o L) = lsO false L := by
  rw [lsO, fz_lst, fzs_map, List.map_map]
  congr 1
  exact List.map_congr_left fun l _ => by simp only [Function.comp, fz_lst, fzs_izs]
theorem cln_lsO (L : List (List Int)) : cln (lsO false L) = true := by rw [← fz_lsO false L]; exact fz_cln _
theorem lsO_at {L : List (List Int)} {i : Int} (h0 : 0 ≤ i) (h1 : i < L.length) : ∃ l, L[i.toNat]? = some l ∧ l ∈ L ∧ ∀ o, subX (lsO o L) (.int i) = some (.lst o (izs l)) := by
  obtain ⟨l, e, m⟩ := at_lt h0 h1
  exact ⟨l, e, m, fun o => atI_nat h0 (by simp only [List.getElem?_map, e, Option.map_some])⟩
/-- a look into such -/
theorem Q.lsV {Ex : Nat → Env → Prop} {Γ : Env} {k : D → Env → Prop} {i : Nat} {q : PM D} {o : Bool} {L : List (List Int)} {j : Int} {l : List Int} (hi : Γ[i]? = some (some (lsO o L))) (hq : q Γ = some (.int j)) (hq2 : q (Γ.set i (some (lsO false L))) = some (.int j)) (hl : ∀ o, subX (lsO o L) (.int j) = some (.lst o (izs l))) (h : k (.lst false (izs l)) (Γ.set i (some (lsO false L)))) : Sat Ex (mVal (some i) (pOp2 subX (pVar i) q)) Γ k := by
  cases o with
  | false =>
    rw [set_eq hi] at h
    exact Q.val (ev_op (pVar_of hi) hq (hl false)) (by simp only [cln_lst, clns_izs]; rfl) h
  | true =>
    have hs := (List.getElem?_eq_some_iff.mp hi).1
    refine Q.valz (ev_op (pVar_of hi) hq (hl true)) (by simp only [cln_lst]; rfl) hi (d' := .lst false (izs l)) ?_ (by simp only [cln_lst, clns_izs]; rfl) (by rw [fz_lsO]; exact h)
    rw [fz_lsO]
    exact ev_op (pVar_of (by rw [List.getElem?_set_self hs])) hq2 (hl false)
/-- ints picked and turned to ints -/
theorem pick_izs {xs : List Int} {c : D → Bool} {f : D → D} {c' : Int → Bool} {f' : Int → Int} (hc : ∀ x, c (.int x) = c' x) (hf : ∀ x, f (.int x) = .int (f' x)) : ((izs xs).filter c).map f = izs ((xs.filter c').map f') := by
  rw [izs, List.filter_map, List.map_map, izs, List.map_map]
  rw [show c ∘ D.int = c' from funext hc, show f ∘ D.int = D.int ∘ f' from funext hf]
theorem rngD_izs {lo : Int} {n : Nat} : rngD lo n = izs ((List.range n).map fun (k : Nat) => lo + (k : Int)) := by
  rw [izs, List.map_map]
  rfl
theorem lsO_len (o : Bool) (L : List (List Int)) : (L.map fun l => D.lst o (izs l)).length = L.length := List.length_map ..
theorem lrg1_ok {t : Bool} {j : Int} (h0 : 0 ≤ j) (h1 : j ≤ 1000000) : lrg1 t (.int j) = some (if t then .tup (rngD 0 j.toNat) else .lst true (rngD 0 j.toNat)) := by
  have e : rngOk 0 j = true := by
    unfold rngOk
    rw [Bool.and_eq_true, Bool.and_eq_true]
    exact ⟨⟨rfl, big_ok (by omega) (by omega)⟩, decide_eq_true (by omega)⟩
  unfold lrg1
  simp only [e, if_true, Int.sub_zero]
theorem Q.lrg1 {Ex : Nat → Env → Prop} {Γ : Env} {k : D → Env → Prop} {t : Bool} {m : M D} (h : Sat Ex m Γ fun d Γ1 => ∃ z, PX.lrg1 t d = some z ∧ k z Γ1) : Sat Ex (mLrg1 t m) Γ k := Sat.bind.mpr (h.imp fun d Γ1 q => Sat.mO.mpr q)
theorem izs_erase (xs : List Int) (j : Nat) : (izs xs).eraseIdx j = izs (xs.eraseIdx j) := by
  induction xs generalizing j with
  | nil => cases j <;> rfl
  | cons x xs ih => cases j with
    | zero => rfl
    | succ j => simp only [izs, List.map_cons, List.eraseIdx_cons_succ]; congr 1; exact ih j
theorem pop_izs {l : List Int} {i : Int} (h0 : 0 ≤ i) (h1 : i < l.length) (h2 : i ≤ 1000000000) : ∃ x, popD (.lst true (izs l)) [.int i] = some (.lst true (izs (l.eraseIdx i.toNat)), .int x) := by
  obtain ⟨x, e, m⟩ := at_lt h0 h1
  refine ⟨x, ?_⟩
  unfold popD
  simp only [izs_len, ixN_nat h0 h1, big_ok (by omega : -1000000000 ≤ i) h2, if_true]
  unfold popAtD
  have e2 : (izs l)[i.toNat]? = some (.int x) := by simp only [izs, List.getElem?_map, e, Option.map_some]
  simp only [e2, izs_erase]
theorem insert_izs {l : List Int} {i x : Int} (h0 : 0 ≤ i) (h2 : i ≤ 1000000000) (hl : l.length < sizeLine) : insertD (.lst true (izs l)) [.int i, .int x] = some (.lst true (izs (l.take i.toNat ++ [x] ++ l.drop i.toNat)), .non) := by
  unfold insertD
  simp only [izs_len, hl, h0, big_ok (by omega : -1000000000 ≤ i) h2, and_self, if_true, izs, List.map_append, List.map_take, List.map_drop, List.map_cons, List.map_nil]
end PX

namespace PX
open PySem PySem.Spec PyProof.Rows L2
theorem fz_klst (ds : List D) : fz (.klst ds) = .klst (fzs ds) := by simp only [fz]
theorem cln_klst (ds : List D) : cln (.klst ds) = clns ds := by rw [cln]
theorem cln_web (n : Int) (es : List (Int × Int)) : cln (webD n es) = true := by
  simp only [webD, cln_tup, clns_cons, cln_int, clns_nil, clns_eds, Bool.and_self]
theorem fz_web (n : Int) (es : List (Int × Int)) : fz (webD n es) = webD n es := fz_id _ (cln_web n es)
end PX

namespace K59
open PySem L2 PX PyProof.Rows PySem.Spec
def top (i : Nat) : Stmt := PySem.Challenge.pw_partwood_k59_hueings_looked_at.main.body.getD i (.Pass ⟨0, 0, 0, 0⟩)
abbrev s_law_draw : Stmt := top 4
abbrev N_law_draw : List Str := ["pen", "many", "number", "digit"]
abbrev P_law_draw : List Str := ["pen", "many"]
abbrev s_law_any_web : Stmt := top 6
abbrev N_law_any_web : List Str := ["pen", "most", "count", "ties", "k", "one", "other"]
abbrev P_law_any_web : List Str := ["pen", "most"]
abbrev s_law_near : Stmt := top 5
abbrev N_law_near : List Str := ["web", "near", "one", "other", "place"]
abbrev P_law_near : List Str := ["web"]
abbrev s_law_hued : Stmt := top 8
abbrev N_law_hued : List Str := ["pen", "web", "k", "near", "hues", "place", "barred", "let", "other", "hue"]
abbrev P_law_hued : List Str := ["pen", "web", "k"]
abbrev s_law_is_hueing : Stmt := top 7
abbrev N_law_is_hueing : List Str := ["web", "k", "hues", "one", "other", "hue"]
abbrev P_law_is_hueing : List Str := ["web", "k", "hues"]
abbrev s_law_pen : Stmt := top 3
abbrev N_law_pen : List Str := ["script", "at", "cell", "own"]
abbrev P_law_pen : List Str := ["script", "at"]
abbrev s_law_spoilt : Stmt := top 9
abbrev N_law_spoilt : List Str := ["pen", "kind", "web", "k", "hues", "found", "at", "near"]
abbrev P_law_spoilt : List Str := ["pen", "kind", "web", "k", "hues"]
abbrev s_is_hueing : Stmt := top 1
abbrev N_is_hueing : List Str := ["web", "k", "hueing", "a", "b", "hue"]
abbrev P_is_hueing : List Str := ["web", "k", "hueing"]
abbrev s_law : Stmt := top 10
abbrev N_law : List Str := ["script", "at", "pen", "kind", "k", "web", "hues", "many", "found"]
abbrev P_law : List Str := ["script"]
/-- what the module has of the built-in names -/
structure Txt (mg : Str → Option Value) : Prop where
  b_all : mg "all" = none
  b_bool : mg "bool" = none
  b_int : mg "int" = none
  b_isinstance : mg "isinstance" = none
  b_len : mg "len" = none
  b_list : mg "list" = none
  b_max : mg "max" = none
  b_min : mg "min" = none
  b_range : mg "range" = none
  b_sorted : mg "sorted" = none
  b_tuple : mg "tuple" = none

def law_drawB : M Fl :=
  (mSeq (mAsg (mVal none (pOp2 addI (pOp2 subX (pVar 0) (pCst (.int 2))) (pCst (.int 1)))) (mPut 0 pNil (mVal none (pCst (.int 2)))))
  (mSeq (mIf (mP (pBl (pOp2 gtI (pOp2 subX (pVar 0) (pCst (.int 0))) (pCst (.int 0)))))
    (mSeq (mAsg (mVal none (pOp2 modI (pOp2 subX (pVar 0) (pCst (.int 0))) (pVar 1))) (mSet 3))
    (mSeq (mAsg (mVal none (pOp2 divI (pOp2 subX (pVar 0) (pCst (.int 0))) (pVar 1))) (mPut 0 pNil (mVal none (pCst (.int 0)))))
    (mSeq (mRet (mTake 3))
    (pure .nx))))
    (pure .nx))
  (mSeq (mAsg (mOp2 (gC modI) (mOp2 (gC powI) (mOp2 addX (mVal (some 0) (pOp2 subX (pVar 0) (pCst (.int 1)))) (mVal none (pOp2 mulI (pCst (.int 7919)) (pOp2 subX (pVar 0) (pCst (.int 2)))))) (mVal none (pCst (.int 5)))) (mVal none (pCst (.int 2147483647)))) (mSet 2))
  (mSeq (mAsg (mOp2 (gC modI) (mOp2 (gC powI) (mOp2 (gC addI) (mVal none (pVar 2)) (mOp2 (gC mulI) (mVal none (pOp2 mulI (pCst (.int 104729)) (pOp2 subX (pVar 0) (pCst (.int 2))))) (mVal (some 0) (pOp2 subX (pVar 0) (pCst (.int 2)))))) (mVal none (pCst (.int 3)))) (mVal none (pCst (.int 2147483629)))) (mSet 2))
  (mSeq (mRet (mVal none (pOp2 modI (pOp2 divI (pVar 2) (pCst (.int 64))) (pVar 1))))
  (pure .nx))))))
def law_drawF : Fn := runF 4 [0] law_drawB
def law_any_webB : M Fl :=
  (mSeq (mAsg (mOp2 (gC addI) (mVal none (pCst (.int 1))) (mCall false [0] law_drawF (mRefA 0 (mValA (mVal (some 1) (pVar 1)) (pure []))))) (mSet 2))
  (mSeq (mAsg (mDicE true) (mSet 3))
  (mSeq (mFor (mRng1 (mCons (mOp2 (gC subX) (mLst (mConsO (mCall false [0] law_drawF (mRefA 0 (mValA (mVal none (pCst (.int 4))) (pure [])))) (mConsO (mCall false [0] law_drawF (mRefA 0 (mValA (mVal none (pOp2 addI (pOp2 mulI (pCst (.int 2)) (pVar 2)) (pCst (.int 1)))) (pure [])))) (mConsO (mCall false [0] law_drawF (mRefA 0 (mValA (mVal none (pCst (.int 81))) (pure [])))) mNil)))) (mCall false [0] law_drawF (mRefA 0 (mValA (mVal none (pCst (.int 3))) (pure []))))) (mP pNil))) (mSet 4)
    (mSeq (mAsg (mCall false [0] law_drawF (mRefA 0 (mValA (mVal none (pVar 2)) (pure [])))) (mSet 5))
    (mSeq (mAsg (mCall false [0] law_drawF (mRefA 0 (mValA (mVal none (pVar 2)) (pure [])))) (mSet 6))
    (mSeq (mIf (mP (pBl (pOp2 neX (pVar 5) (pVar 6))))
      (mSeq (mAsg (mVal none (pCst (.bl true))) (mPut 3 pNil (mTup (mConsO (mVal none (pCall minX (pCons (pVar 5) (pCons (pVar 6) pNil)))) (mConsO (mVal none (pCall maxX (pCons (pVar 5) (pCons (pVar 6) pNil)))) mNil)))))
      (pure .nx))
      (pure .nx))
    (pure .nx)))))
  (mSeq (mRet (mTup (mConsO (mTake 2) (mConsO (mCallA tupleX (mCons (mCallA sortedX (mCons (mVal (some 3) (pVar 3)) (mP pNil))) (mP pNil))) mNil))))
  (pure .nx)))))
def law_any_webF : Fn := runF 7 [0] law_any_webB
def law_nearB : M Fl :=
  (mSeq (mAsg (mLc (mRng1 (mCons (mVal (some 0) (pOp2 subX (pVar 0) (pCst (.int 0)))) (mP pNil))) 5 [4] (mSet 4) (pure true) (mLst mNil)) (mSet 1))
  (mSeq (mFor (mIter (mVal (some 0) (pOp2 subX (pVar 0) (pCst (.int 1))))) (mGtup 2 (mGcons (mSet 2) (mGcons (mSet 3) mGnil)))
    (mSeq (mDrop (mMeth false 1 (pSnoc pNil (pVar 2)) appendD (mConsO (mVal (some 3) (pVar 3)) mNil)))
    (mSeq (mDrop (mMeth false 1 (pSnoc pNil (pVar 3)) appendD (mConsO (mVal (some 2) (pVar 2)) mNil)))
    (pure .nx))))
  (mSeq (mRet (mTake 1))
  (pure .nx))))
def law_nearF : Fn := runF 5 [] law_nearB
def law_huedB : M Fl :=
  (mSeq (mAsg (mCall false [] law_nearF (mValA (mVal (some 1) (pVar 1)) (pure []))) (mSet 3))
  (mSeq (mAsg (mLst mNil) (mSet 4))
  (mSeq (mFor (mRng1 (mCons (mVal (some 1) (pOp2 subX (pVar 1) (pCst (.int 0)))) (mP pNil))) (mSet 5)
    (mSeq (mAsg (mLc (mIter (mVal (some 3) (pOp2 subX (pVar 3) (pVar 5)))) 10 [8] (mSet 8) (mP (pBl (pOp2 ltI (pVar 8) (pVar 5)))) (mVal (some 4) (pOp2 subX (pVar 4) (pVar 8)))) (mSet 6))
    (mSeq (mAsg (mLc (mRng1 (mCons (mVal (some 2) (pVar 2)) (mP pNil))) 10 [9] (mSet 9) (mP (pBl (pOp2 (inX2 true) (pVar 9) (pVar 6)))) (mVal none (pVar 9))) (mSet 7))
    (mSeq (mIf (mBl (mOp2 (gC eqX) (mVal (some 7) (pVar 7)) (mLst mNil)))
      (mSeq (mAsg (mLrg1 false (mVal none (pCall maxX (pCons (pCst (.int 1)) (pCons (pVar 2) pNil))))) (mSet 7))
      (pure .nx))
      (pure .nx))
    (mSeq (mDrop (mMeth false 4 pNil appendD (mConsO (mSubI 7 (mCall false [0] law_drawF (mRefA 0 (mValA (mVal none (pCall lenX (pCons (pVar 7) pNil))) (pure []))))) mNil)))
    (pure .nx))))))
  (mSeq (mRet (mTake 4))
  (pure .nx)))))
def law_huedF : Fn := runF 10 [0] law_huedB
def law_is_hueingB : M Fl :=
  (mSeq (mIf (mOrB (mP (pBl (pOp2 neX (pCall lenX (pCons (pVar 2) pNil)) (pOp2 subX (pVar 0) (pCst (.int 0)))))) (mNotB (mTru (mCallS allX (mCons (mLc (mIter (mVal (some 2) (pVar 2))) 6 [5] (mSet 5) (pure true) (mVal none (pAnd (pOp2 leI (pCst (.int 0)) (pVar 5)) (pOp2 ltI (pVar 5) (pVar 1))))) (mP pNil))))))
    (mSeq (mRet (mVal none (pCst (.bl false))))
    (pure .nx))
    (pure .nx))
  (mSeq (mRet (mCallS allX (mCons (mLc (mIter (mVal (some 0) (pOp2 subX (pVar 0) (pCst (.int 1))))) 6 [3, 4] (mGtup 2 (mGcons (mSet 3) (mGcons (mSet 4) mGnil))) (pure true) (mVal none (pOp2 neX (pOp2 subX (pVar 2) (pVar 3)) (pOp2 subX (pVar 2) (pVar 4))))) (mP pNil))))
  (pure .nx)))
def law_is_hueingF : Fn := runF 6 [] law_is_hueingB
def law_penB : M Fl :=
  (mSeq (mAsg (mVal none (pCst (.int 0))) (mSet 2))
  (mSeq (mIf (mP (pBl (pOp2 gtI (pCall lenX (pCons (pVar 0) pNil)) (pCst (.int 0)))))
    (mSeq (mAsg (mVal (some 0) (pOp2 subX (pVar 0) (pOp2 modI (pVar 1) (pCall lenX (pCons (pVar 0) pNil))))) (mSet 2))
    (pure .nx))
    (pure .nx))
  (mSeq (mAsg (mVal none (pOp2 mulI (pVar 2) (pCall intX (pCons (pAnd (pOp2 geI (pVar 2) (pOp2 powI (pCst (.int 10)) (pCst (.int 18)))) (pOp2 ltI (pVar 1) (pCall lenX (pCons (pVar 0) pNil)))) pNil)))) (mSet 3))
  (mSeq (mRet (mLst (mConsO (mTake 3) (mConsO (mVal none (pOp2 addI (pOp2 addI (pOp2 modI (pVar 2) (pCst (.int 2147483629))) (pOp2 mulI (pCst (.int 1009)) (pVar 1))) (pCst (.int 17)))) (mConsO (mVal none (pCst (.int 0))) mNil)))))
  (pure .nx)))))
def law_penF : Fn := runF 4 [] law_penB
def law_spoiltB : M Fl :=
  (mSeq (mAsg (mCallA listX (mCons (mVal (some 4) (pVar 4)) (mP pNil))) (mSet 5))
  (mSeq (mAsg (mCall false [0] law_drawF (mRefA 0 (mValA (mVal none (pCall lenX (pCons (pVar 5) pNil))) (pure [])))) (mSet 6))
  (mSeq (mAsg (mOp2 (gC subX) (mCall false [] law_nearF (mValA (mVal (some 2) (pVar 2)) (pure []))) (mVal none (pVar 6))) (mSet 7))
  (mSeq (mIf (mP (pBl (pOp2 eqX (pVar 1) (pCst (.int 1)))))
    (mSeq (mAsg (mCall false [0] law_drawF (mRefA 0 (mValA (mVal none (pCall maxX (pCons (pCst (.int 1)) (pCons (pVar 3) pNil)))) (pure [])))) (mPut 5 pNil (mVal none (pVar 6))))
    (pure .nx))
    (pure .nx))
  (mSeq (mIf (mAndB (mP (pBl (pOp2 eqX (pVar 1) (pCst (.int 2))))) (mBl (mOp2 (gC neX) (mVal (some 7) (pVar 7)) (mLst mNil))))
    (mSeq (mAsg (mSubI 5 (mSubI 7 (mCall false [0] law_drawF (mRefA 0 (mValA (mVal none (pCall lenX (pCons (pVar 7) pNil))) (pure [])))))) (mPut 5 pNil (mVal none (pVar 6))))
    (pure .nx))
    (pure .nx))
  (mSeq (mIf (mP (pBl (pOp2 eqX (pVar 1) (pCst (.int 3)))))
    (mSeq (mAsg (mOp2 (gC subX) (mLst (mConsO (mVal none (pUn negX (pCst (.int 1)))) (mConsO (mVal (some 3) (pVar 3)) (mConsO (mVal none (pOp2 addI (pVar 3) (pCst (.int 1)))) (mConsO (mVal none (pOp2 subI (pOp2 powI (pCst (.int 10)) (pCst (.int 30))) (pCst (.int 1)))) (mConsO (mVal none (pOp2 subI (pCst (.int 1)) (pOp2 powI (pCst (.int 10)) (pCst (.int 30))))) mNil)))))) (mCall false [0] law_drawF (mRefA 0 (mValA (mVal none (pCst (.int 5))) (pure []))))) (mPut 5 pNil (mVal none (pVar 6))))
    (pure .nx))
    (pure .nx))
  (mSeq (mIf (mP (pBl (pOp2 eqX (pVar 1) (pCst (.int 4)))))
    (mSeq (mDrop (mMeth false 5 pNil popD (mConsO (mVal none (pVar 6)) mNil)))
    (pure .nx))
    (pure .nx))
  (mSeq (mIf (mP (pBl (pOp2 eqX (pVar 1) (pCst (.int 5)))))
    (mSeq (mDrop (mMeth false 5 pNil insertD (mConsO (mVal none (pVar 6)) (mConsO (mCall false [0] law_drawF (mRefA 0 (mValA (mVal none (pCall maxX (pCons (pCst (.int 1)) (pCons (pVar 3) pNil)))) (pure [])))) mNil))))
    (pure .nx))
    (pure .nx))
  (mSeq (mIf (mP (pBl (pOp2 eqX (pVar 1) (pCst (.int 6)))))
    (mSeq (mAsg (mLst mNil) (mSet 5))
    (pure .nx))
    (pure .nx))
  (mSeq (mRet (mTake 5))
  (pure .nx)))))))))))
def law_spoiltF : Fn := runF 8 [0] law_spoiltB
def is_hueingB : M Fl :=
  (mSeq (mIf (mOrB (mP (pBl (pOp2 neX (pCall lenX (pCons (pVar 2) pNil)) (pOp2 subX (pVar 0) (pCst (.int 0)))))) (mNotB (mTru (mCallS allX (mCons (mLc (mIter (mVal (some 2) (pVar 2))) 6 [5] (mSet 5) (pure true) (mVal none (pChain leI ltI (pCst (.int 0)) (pVar 5) (pVar 1)))) (mP pNil))))))
    (mSeq (mRet (mVal none (pCst (.bl false))))
    (pure .nx))
    (pure .nx))
  (mSeq (mRet (mCallS allX (mCons (mLc (mIter (mVal (some 0) (pOp2 subX (pVar 0) (pCst (.int 1))))) 6 [3, 4] (mGtup 2 (mGcons (mSet 3) (mGcons (mSet 4) mGnil))) (pure true) (mVal none (pOp2 neX (pOp2 subX (pVar 2) (pVar 3)) (pOp2 subX (pVar 2) (pVar 4))))) (mP pNil))))
  (pure .nx)))
def is_hueingF : Fn := runF 6 [] is_hueingB
def lawB : M Fl :=
  (mSeq (mFor (mRng2 (mCons (mVal none (pCst (.int 0))) (mCons (mVal none (pCall maxX (pCons (pCst (.int 1)) (pCons (pCall minX (pCons (pCst (.int 12)) (pCons (pCall lenX (pCons (pVar 0) pNil)) pNil))) pNil)))) (mP pNil)))) (mSet 1)
    (mSeq (mAsg (mCall false [] law_penF (mValA (mVal (some 0) (pVar 0)) (mValA (mVal none (pVar 1)) (pure [])))) (mSet 2))
    (mSeq (mAsg (mCall false [0] law_drawF (mRefA 2 (mValA (mVal none (pCst (.int 8))) (pure [])))) (mSet 3))
    (mSeq (mAsg (mCall false [0] law_drawF (mRefA 2 (mValA (mVal none (pCst (.int 5))) (pure [])))) (mSet 4))
    (mSeq (mAsg (mCall false [0] law_any_webF (mRefA 2 (mValA (mVal none (pCst (.int 12))) (pure [])))) (mSet 5))
    (mSeq (mAsg (mCall false [0] law_spoiltF (mRefA 2 (mValA (mVal none (pVar 3)) (mValA (mVal (some 5) (pVar 5)) (mValA (mVal none (pVar 4)) (mValA (mCall false [0] law_huedF (mRefA 2 (mValA (mVal (some 5) (pVar 5)) (mValA (mVal none (pVar 4)) (pure []))))) (pure []))))))) (mSet 6))
    (mSeq (mFor (mIter (mLst (mConsO (mVal none (pVar 4)) (mConsO (mVal none (pCall minX (pCons (pCst (.int 4)) (pCons (pOp2 addI (pVar 4) (pCst (.int 1))) pNil)))) (mConsO (mVal none (pCall maxX (pCons (pCst (.int 0)) (pCons (pOp2 subI (pVar 4) (pCst (.int 1))) pNil)))) (mConsO (mVal none (pVar 4)) mNil)))))) (mSet 7)
      (mSeq (mAsg (mCall false [] is_hueingF (mValA (mVal (some 5) (pVar 5)) (mValA (mVal (some 7) (pVar 7)) (mValA (mCallA tupleX (mCons (mVal (some 6) (pVar 6)) (mP pNil))) (pure []))))) (mSet 8))
      (mSeq (mIf (mOrB (mP (pNotB (pTru (pCall isiX (pCons (pVar 8) (pCons (pCst (.ty "bool")) pNil)))))) (mBl (mOp2 (gC neX) (mVal (some 8) (pVar 8)) (mCall false [] law_is_hueingF (mValA (mVal (some 5) (pVar 5)) (mValA (mVal (some 7) (pVar 7)) (mValA (mVal (some 6) (pVar 6)) (pure []))))))))
        (mSeq (mRet (mVal none (pCst (.bl false))))
        (pure .nx))
        (pure .nx))
      (pure .nx))))
    (pure .nx))))))))
  (mSeq (mRet (mVal none (pCst (.bl true))))
  (pure .nx)))
def lawF : Fn := runF 9 [] lawB

end K59
namespace K59
open PySem L2 PX PyProof.Rows PySem.Spec
section
variable {P : Program} {w : World} {K : PySem.W.Frag} {mg : Str → Option Value} {base : Heap} {cl : Clss}
abbrev Is_law_draw (P : Program) (w : World) (K : PySem.W.Frag) (mg : Str → Option Value) (base : Heap) (cl : Clss) : Prop := Known P w K mg base CX0 cl "_law_draw" P_law_draw 1 false 2 [0] law_drawF
abbrev Is_law_any_web (P : Program) (w : World) (K : PySem.W.Frag) (mg : Str → Option Value) (base : Heap) (cl : Clss) : Prop := Known P w K mg base CX0 cl "_law_any_web" P_law_any_web 2 false 2 [0] law_any_webF
abbrev Is_law_near (P : Program) (w : World) (K : PySem.W.Frag) (mg : Str → Option Value) (base : Heap) (cl : Clss) : Prop := Known P w K mg base CX0 cl "_law_near" P_law_near 1 false 1 [] law_nearF
abbrev Is_law_hued (P : Program) (w : World) (K : PySem.W.Frag) (mg : Str → Option Value) (base : Heap) (cl : Clss) : Prop := Known P w K mg base CX0 cl "_law_hued" P_law_hued 2 false 3 [0] law_huedF
abbrev Is_law_is_hueing (P : Program) (w : World) (K : PySem.W.Frag) (mg : Str → Option Value) (base : Heap) (cl : Clss) : Prop := Known P w K mg base CX0 cl "_law_is_hueing" P_law_is_hueing 1 false 3 [] law_is_hueingF
abbrev Is_law_pen (P : Program) (w : World) (K : PySem.W.Frag) (mg : Str → Option Value) (base : Heap) (cl : Clss) : Prop := Known P w K mg base CX0 cl "_law_pen" P_law_pen 1 false 2 [] law_penF
abbrev Is_law_spoilt (P : Program) (w : World) (K : PySem.W.Frag) (mg : Str → Option Value) (base : Heap) (cl : Clss) : Prop := Known P w K mg base CX0 cl "_law_spoilt" P_law_spoilt 2 false 5 [0] law_spoiltF
abbrev Is_is_hueing (P : Program) (w : World) (K : PySem.W.Frag) (mg : Str → Option Value) (base : Heap) (cl : Clss) : Prop := Known P w K mg base CX0 cl "is_hueing" P_is_hueing 1 false 3 [] is_hueingF
abbrev Is_law (P : Program) (w : World) (K : PySem.W.Frag) (mg : Str → Option Value) (base : Heap) (cl : Clss) : Prop := Known P w K mg base CX0 cl "law" P_law 3 false 1 [] lawF
theorem sc_law_draw : FnScope N_law_draw P_law_draw (defScope s_law_draw) := ⟨rfl, rfl, rfl, by decide +kernel, rfl, by decide +kernel, by decide +kernel⟩
theorem ok_law_draw {f : Addr} {fd : FuncData} (Fu : Fun K "_law_draw" "_law_draw" s_law_draw f fd) (T : Txt mg)  : FnOk P w K mg base CX0 1 f fd P_law_draw (SpF K cl false 2 [0] law_drawF) := by
  refine fn_ok (k := 0) Fu sc_law_draw rfl (by decide) (by decide) fun cdv A outer s H E hr => ?_
  have hu68 : (A.deeper (envOfC "_law_draw" (defScope s_law_draw) s.heap.objs.size f cdv)).units + 68 < cLine := by have := hr.un; omega
  have hu : (A.deeper (envOfC "_law_draw" (defScope s_law_draw) s.heap.objs.size f cdv)).units + 66 < cLine := by omega
  exact (
  (st_cons (sA [] [0] (xv none (oP os_add (sP hu (v 0) kI) kI)) (gS [] hu (lN 0) (xv none kI)))
  (st_cons (sI [] (tX (qP (os_gt) (sP hu (v 0) kI) kI))
    (st_cons (sA [] [3] (xv none (oP os_mod (sP hu (v 0) kI) (v 1))) (gN 3 sc_law_draw.nd))
    (st_cons (sA [] [0] (xv none (oP os_div (sP hu (v 0) kI) (v 1))) (gS [] hu (lN 0) (xv none kI)))
    (st_cons (sR [3] (mv 3))
    st_nil)))
    st_nil)
  (st_cons (sA [0] [2] (tx_op os_mod (tx_op os_pow (tx_opN oa_add (xv (some 0) (sP hu (v 0) kI)) (xv none (oP os_mul kI (sP hu (v 0) kI)))) (xv none kI)) (xv none kI)) (gN 2 sc_law_draw.nd))
  (st_cons (sA [0] [2] (tx_op os_mod (tx_op os_pow (tx_op os_add (xv none (v 2)) (tx_op os_mul (xv none (oP os_mul kI (sP hu (v 0) kI))) (xv (some 0) (sP hu (v 0) kI)))) (xv none kI)) (xv none kI)) (gN 2 sc_law_draw.nd))
  (st_cons (sR [] (xv none (oP os_mod (oP os_div (v 2) kI) (v 1))))
  st_nil))))))
theorem sc_law_any_web : FnScope N_law_any_web P_law_any_web (defScope s_law_any_web) := ⟨rfl, rfl, rfl, by decide +kernel, rfl, by decide +kernel, by decide +kernel⟩
theorem ok_law_any_web {f : Addr} {fd : FuncData} (Fu : Fun K "_law_any_web" "_law_any_web" s_law_any_web f fd) (T : Txt mg) (K_law_draw : Is_law_draw P w K mg base cl) : FnOk P w K mg base CX0 2 f fd P_law_any_web (SpF K cl false 2 [0] law_any_webF) := by
  refine fn_ok (k := 1) Fu sc_law_any_web rfl (by decide) (by decide) fun cdv A outer s H E hr => ?_
  have hu68 : (A.deeper (envOfC "_law_any_web" (defScope s_law_any_web) s.heap.objs.size f cdv)).units + 68 < cLine := by have := hr.un; omega
  have hu : (A.deeper (envOfC "_law_any_web" (defScope s_law_any_web) s.heap.objs.size f cdv)).units + 66 < cLine := by omega
  exact (
  (st_cons (sA [0, 1] [2] (tx_op os_add (xv none kI) (fC K_law_draw hr pz (aR 0 (aV (xv (some 1) (v 1)) aRN)) (nR (nV args_len_nil)))) (gN 2 sc_law_any_web.nd))
  (st_cons (sA [] [3] tx_dicE (gN 3 sc_law_any_web.nd))
  (st_cons (sF [0] [4] PassesOwn.never (i1 T.b_range (aX (sX hu (tx_lst (aO (fC K_law_draw hr pz (aR 0 (aV (xv none kI) aRN)) (nR (nV args_len_nil))) (aO (fC K_law_draw hr pz (aR 0 (aV (xv none (oP os_add (oP os_mul kI (v 2)) kI)) aRN)) (nR (nV args_len_nil))) (aO (fC K_law_draw hr pz (aR 0 (aV (xv none kI) aRN)) (nR (nV args_len_nil))) aON)))) (fC K_law_draw hr pz (aR 0 (aV (xv none kI) aRN)) (nR (nV args_len_nil)))) aXN)) (gN 4 sc_law_any_web.nd)
    (st_cons (sA [0] [5] (fC K_law_draw hr pz (aR 0 (aV (xv none (v 2)) aRN)) (nR (nV args_len_nil))) (gN 5 sc_law_any_web.nd))
    (st_cons (sA [0] [6] (fC K_law_draw hr pz (aR 0 (aV (xv none (v 2)) aRN)) (nR (nV args_len_nil))) (gN 6 sc_law_any_web.nd))
    (st_cons (sI [] (tX (qP (ops_ne hu) (v 5) (v 6)))
      (st_cons (sA [] [3] (xv none kB) (gS [] hu (lN 3) (tx_tup (aO (xv none (bP (cs_min rfl) T.b_min PyProof.Rows.boot_min (aP (v 5) (aP (v 6) aN)))) (aO (xv none (bP (cs_max rfl) T.b_max PyProof.Rows.boot_max (aP (v 5) (aP (v 6) aN)))) aON)))))
      st_nil)
      st_nil)
    st_nil))))
  (st_cons (sR [2, 3] (tx_tup (aO (mv 2) (aO (yA ca_tuple T.b_tuple PyProof.Rows.boot_tuple (aX (bA (cla_sorted rfl hu68) T.b_sorted PyProof.Rows.boot_sorted (aX (xv (some 3) (v 3)) aXN)) aXN)) aON))))
  st_nil)))))
theorem sc_law_near : FnScope N_law_near P_law_near (defScope s_law_near) := ⟨rfl, rfl, rfl, by decide +kernel, rfl, by decide +kernel, by decide +kernel⟩
theorem ok_law_near {f : Addr} {fd : FuncData} (Fu : Fun K "_law_near" "_law_near" s_law_near f fd) (T : Txt mg)  : FnOk P w K mg base CX0 1 f fd P_law_near (SpF K cl false 1 [] law_nearF) := by
  refine fn_ok (k := 0) Fu sc_law_near rfl (by decide) (by decide) fun cdv A outer s H E hr => ?_
  have hu68 : (A.deeper (envOfC "_law_near" (defScope s_law_near) s.heap.objs.size f cdv)).units + 68 < cLine := by have := hr.un; omega
  have hu : (A.deeper (envOfC "_law_near" (defScope s_law_near) s.heap.objs.size f cdv)).units + 66 < cLine := by omega
  exact (
  (st_cons (sL 1 [("place", 4)] [0, 4] sc_law_near.nd (blkOk_by (N := N_law_near) (sc := defScope s_law_near) (by decide +kernel)) (sw_true rfl rfl rfl (by decide +kernel)) (i1 T.b_range (aX (xv (some 0) (sP hu (v 0) kI)) aXN)) (fun _ _ _ _ _ => (gN 4 sc_law_near.nd)) (fun _ _ _ _ _ => tts_nil) (fun _ _ _ _ _ => (tx_lst aON)))
  (st_cons (sF [0] [2, 3] PassesOwn.never (iS (xv (some 0) (sP hu (v 0) kI))) (gT (gC' (gN 2 sc_law_near.nd) (gC' (gN 3 sc_law_near.nd) gZ)))
    (st_cons (sE [1, 3] (me [3] PySem.F.slot_list_append PySem.F.type_list_append mt_append mut_append (lS hu (lN 1) (v 2)) (aO (xv (some 3) (v 3)) aON)))
    (st_cons (sE [1, 2] (me [2] PySem.F.slot_list_append PySem.F.type_list_append mt_append mut_append (lS hu (lN 1) (v 3)) (aO (xv (some 2) (v 2)) aON)))
    st_nil)))
  (st_cons (sR [1] (mv 1))
  st_nil))))
theorem sc_law_hued : FnScope N_law_hued P_law_hued (defScope s_law_hued) := ⟨rfl, rfl, rfl, by decide +kernel, rfl, by decide +kernel, by decide +kernel⟩
theorem ok_law_hued {f : Addr} {fd : FuncData} (Fu : Fun K "_law_hued" "_law_hued" s_law_hued f fd) (T : Txt mg) (K_law_draw : Is_law_draw P w K mg base cl) (K_law_near : Is_law_near P w K mg base cl) : FnOk P w K mg base CX0 2 f fd P_law_hued (SpF K cl false 3 [0] law_huedF) := by
  refine fn_ok (k := 1) Fu sc_law_hued rfl (by decide) (by decide) fun cdv A outer s H E hr => ?_
  have hu68 : (A.deeper (envOfC "_law_hued" (defScope s_law_hued) s.heap.objs.size f cdv)).units + 68 < cLine := by have := hr.un; omega
  have hu : (A.deeper (envOfC "_law_hued" (defScope s_law_hued) s.heap.objs.size f cdv)).units + 66 < cLine := by omega
  exact (
  (st_cons (sA [1] [3] (fC K_law_near hr pz (aV (xv (some 1) (v 1)) aRN) (nV args_len_nil)) (gN 3 sc_law_hued.nd))
  (st_cons (sA [] [4] (tx_lst aON) (gN 4 sc_law_hued.nd))
  (st_cons (sF [1] [5] PassesOwn.never (i1 T.b_range (aX (xv (some 1) (sP hu (v 1) kI)) aXN)) (gN 5 sc_law_hued.nd)
    (st_cons (sA [3, 4, 8] [6] (xL [("other", 8)] sc_law_hued.nd (blkOk_by (N := N_law_hued) (sc := defScope s_law_hued) (by decide +kernel)) (iS (xv (some 3) (sP hu (v 3) (v 5)))) (fun _ _ _ _ _ => (gN 8 sc_law_hued.nd)) (fun _ _ _ _ _ => (tts_one (tX (qP (os_lt) (v 8) (v 5))))) (fun _ _ _ _ _ => (xv (some 4) (sP hu (v 4) (v 8))))) (gN 6 sc_law_hued.nd))
    (st_cons (sL 7 [("hue", 9)] [2, 9] sc_law_hued.nd (blkOk_by (N := N_law_hued) (sc := defScope s_law_hued) (by decide +kernel)) (sw_true rfl rfl rfl (by decide +kernel)) (i1 T.b_range (aX (xv (some 2) (v 2)) aXN)) (fun _ _ _ _ _ => (gN 9 sc_law_hued.nd)) (fun _ _ _ _ _ => (tts_one (tX (qP (ops_notIn2 hu) (v 9) (v 6))))) (fun _ _ _ _ _ => (xv none (v 9))))
    (st_cons (sI [7] (qX (ops_eq hu) (xv (some 7) (v 7)) (tx_lst aON))
      (st_cons (sA [] [7] (lr1 T.b_list T.b_range (xv none (bP (cs_max rfl) T.b_max PyProof.Rows.boot_max (aP kI (aP (v 2) aN))))) (gN 7 sc_law_hued.nd))
      st_nil)
      st_nil)
    (st_cons (sE [0, 4, 7] (me [0, 7] PySem.F.slot_list_append PySem.F.type_list_append mt_append mut_append (lN 4) (aO (subJ hu (lN 7) (fC K_law_draw hr pz (aR 0 (aV (xv none (bP cls_len T.b_len PySem.boot_len (aP (v 7) aN))) aRN)) (nR (nV args_len_nil)))) aON)))
    st_nil)))))
  (st_cons (sR [4] (mv 4))
  st_nil)))))
theorem sc_law_is_hueing : FnScope N_law_is_hueing P_law_is_hueing (defScope s_law_is_hueing) := ⟨rfl, rfl, rfl, by decide +kernel, rfl, by decide +kernel, by decide +kernel⟩
theorem ok_law_is_hueing {f : Addr} {fd : FuncData} (Fu : Fun K "_law_is_hueing" "_law_is_hueing" s_law_is_hueing f fd) (T : Txt mg)  : FnOk P w K mg base CX0 1 f fd P_law_is_hueing (SpF K cl false 3 [] law_is_hueingF) := by
  refine fn_ok (k := 0) Fu sc_law_is_hueing rfl (by decide) (by decide) fun cdv A outer s H E hr => ?_
  have hu68 : (A.deeper (envOfC "_law_is_hueing" (defScope s_law_is_hueing) s.heap.objs.size f cdv)).units + 68 < cLine := by have := hr.un; omega
  have hu : (A.deeper (envOfC "_law_is_hueing" (defScope s_law_is_hueing) s.heap.objs.size f cdv)).units + 66 < cLine := by omega
  exact (
  (st_cons (sI [2, 5] (L2.PW.pt (tw_orX (tX (qP (ops_ne hu) (bP cls_len T.b_len PySem.boot_len (aP (v 2) aN)) (sP hu (v 0) kI))) (tw_or1 (tt_notX (uX (bX (cs_all rfl) T.b_all PyProof.Rows.boot_all (aX (xL [("hue", 5)] sc_law_is_hueing.nd (blkOk_by (N := N_law_is_hueing) (sc := defScope s_law_is_hueing) (by decide +kernel)) (iS (xv (some 2) (v 2))) (fun _ _ _ _ _ => (gN 5 sc_law_is_hueing.nd)) (fun _ _ _ _ _ => tts_nil) (fun _ _ _ _ _ => (xv none (tp_and (cP (os_le) kI (v 5)) (tp_one (cP (os_lt) (v 5) (v 1))))))) aXN)))))))
    (st_cons (sR [] (xv none kB))
    st_nil)
    st_nil)
  (st_cons (sR [0, 3, 4] (bX (cs_all rfl) T.b_all PyProof.Rows.boot_all (aX (xL [("one", 3), ("other", 4)] sc_law_is_hueing.nd (blkOk_by (N := N_law_is_hueing) (sc := defScope s_law_is_hueing) (by decide +kernel)) (iS (xv (some 0) (sP hu (v 0) kI))) (fun _ _ _ _ _ => (gT (gC' (gN 3 sc_law_is_hueing.nd) (gC' (gN 4 sc_law_is_hueing.nd) gZ)))) (fun _ _ _ _ _ => tts_nil) (fun _ _ _ _ _ => (xv none (cP (ops_ne hu) (sP hu (v 2) (v 3)) (sP hu (v 2) (v 4)))))) aXN)))
  st_nil)))
theorem sc_law_pen : FnScope N_law_pen P_law_pen (defScope s_law_pen) := ⟨rfl, rfl, rfl, by decide +kernel, rfl, by decide +kernel, by decide +kernel⟩
theorem ok_law_pen {f : Addr} {fd : FuncData} (Fu : Fun K "_law_pen" "_law_pen" s_law_pen f fd) (T : Txt mg)  : FnOk P w K mg base CX0 1 f fd P_law_pen (SpF K cl false 2 [] law_penF) := by
  refine fn_ok (k := 0) Fu sc_law_pen rfl (by decide) (by decide) fun cdv A outer s H E hr => ?_
  have hu68 : (A.deeper (envOfC "_law_pen" (defScope s_law_pen) s.heap.objs.size f cdv)).units + 68 < cLine := by have := hr.un; omega
  have hu : (A.deeper (envOfC "_law_pen" (defScope s_law_pen) s.heap.objs.size f cdv)).units + 66 < cLine := by omega
  exact (
  (st_cons (sA [] [2] (xv none kI) (gN 2 sc_law_pen.nd))
  (st_cons (sI [] (tX (qP (os_gt) (bP cls_len T.b_len PySem.boot_len (aP (v 0) aN)) kI))
    (st_cons (sA [0] [2] (xv (some 0) (sP hu (v 0) (oP os_mod (v 1) (bP cls_len T.b_len PySem.boot_len (aP (v 0) aN))))) (gN 2 sc_law_pen.nd))
    st_nil)
    st_nil)
  (st_cons (sA [] [3] (xv none (oP os_mul (v 2) (yP cs_int T.b_int PyProof.Rows.boot_int (aP (tp_and (cP (os_ge) (v 2) (oP os_pow kI kI)) (tp_one (cP (os_lt) (v 1) (bP cls_len T.b_len PySem.boot_len (aP (v 0) aN))))) aN)))) (gN 3 sc_law_pen.nd))
  (st_cons (sR [3] (tx_lst (aO (mv 3) (aO (xv none (oP os_add (oP os_add (oP os_mod (v 2) kI) (oP os_mul kI (v 1))) kI)) (aO (xv none kI) aON)))))
  st_nil)))))
theorem sc_law_spoilt : FnScope N_law_spoilt P_law_spoilt (defScope s_law_spoilt) := ⟨rfl, rfl, rfl, by decide +kernel, rfl, by decide +kernel, by decide +kernel⟩
theorem ok_law_spoilt {f : Addr} {fd : FuncData} (Fu : Fun K "_law_spoilt" "_law_spoilt" s_law_spoilt f fd) (T : Txt mg) (K_law_draw : Is_law_draw P w K mg base cl) (K_law_near : Is_law_near P w K mg base cl) : FnOk P w K mg base CX0 2 f fd P_law_spoilt (SpF K cl false 5 [0] law_spoiltF) := by
  refine fn_ok (k := 1) Fu sc_law_spoilt rfl (by decide) (by decide) fun cdv A outer s H E hr => ?_
  have hu68 : (A.deeper (envOfC "_law_spoilt" (defScope s_law_spoilt) s.heap.objs.size f cdv)).units + 68 < cLine := by have := hr.un; omega
  have hu : (A.deeper (envOfC "_law_spoilt" (defScope s_law_spoilt) s.heap.objs.size f cdv)).units + 66 < cLine := by omega
  exact (
  (st_cons (sA [4] [5] (yA ca_list T.b_list PyProof.Rows.boot_list (aX (xv (some 4) (v 4)) aXN)) (gN 5 sc_law_spoilt.nd))
  (st_cons (sA [0] [6] (fC K_law_draw hr pz (aR 0 (aV (xv none (bP cls_len T.b_len PySem.boot_len (aP (v 5) aN))) aRN)) (nR (nV args_len_nil))) (gN 6 sc_law_spoilt.nd))
  (st_cons (sA [2] [7] (sX hu (fC K_law_near hr pz (aV (xv (some 2) (v 2)) aRN) (nV args_len_nil)) (xv none (v 6))) (gN 7 sc_law_spoilt.nd))
  (st_cons (sI [] (tX (qP (ops_eq hu) (v 1) kI))
    (st_cons (sA [0] [5] (fC K_law_draw hr pz (aR 0 (aV (xv none (bP (cs_max rfl) T.b_max PyProof.Rows.boot_max (aP kI (aP (v 3) aN)))) aRN)) (nR (nV args_len_nil))) (gS [] hu (lN 5) (xv none (v 6))))
    st_nil)
    st_nil)
  (st_cons (sI [7] (L2.PW.pt (tw_andX (tX (qP (ops_eq hu) (v 1) kI)) (tw_and1 (qX (ops_ne hu) (xv (some 7) (v 7)) (tx_lst aON)))))
    (st_cons (sA [0, 5, 7] [5] (subJ hu (lN 5) (subJ hu (lN 7) (fC K_law_draw hr pz (aR 0 (aV (xv none (bP cls_len T.b_len PySem.boot_len (aP (v 7) aN))) aRN)) (nR (nV args_len_nil))))) (gS [] hu (lN 5) (xv none (v 6))))
    st_nil)
    st_nil)
  (st_cons (sI [] (tX (qP (ops_eq hu) (v 1) kI))
    (st_cons (sA [0, 3] [5] (sX hu (tx_lst (aO (xv none (tp_neg kI)) (aO (xv (some 3) (v 3)) (aO (xv none (oP os_add (v 3) kI)) (aO (xv none (oP os_sub (oP os_pow kI kI) kI)) (aO (xv none (oP os_sub kI (oP os_pow kI kI))) aON)))))) (fC K_law_draw hr pz (aR 0 (aV (xv none kI) aRN)) (nR (nV args_len_nil)))) (gS [] hu (lN 5) (xv none (v 6))))
    st_nil)
    st_nil)
  (st_cons (sI [] (tX (qP (ops_eq hu) (v 1) kI))
    (st_cons (sE [5] (me [] PySem.F.slot_list_pop PySem.F.type_list_pop mt_popB mut_pop (lN 5) (aO (xv none (v 6)) aON)))
    st_nil)
    st_nil)
  (st_cons (sI [] (tX (qP (ops_eq hu) (v 1) kI))
    (st_cons (sE [0, 5] (me [0] PySem.F.slot_list_insert PySem.F.type_list_insert mt_insert mut_insert (lN 5) (aO (xv none (v 6)) (aO (fC K_law_draw hr pz (aR 0 (aV (xv none (bP (cs_max rfl) T.b_max PyProof.Rows.boot_max (aP kI (aP (v 3) aN)))) aRN)) (nR (nV args_len_nil))) aON))))
    st_nil)
    st_nil)
  (st_cons (sI [] (tX (qP (ops_eq hu) (v 1) kI))
    (st_cons (sA [] [5] (tx_lst aON) (gN 5 sc_law_spoilt.nd))
    st_nil)
    st_nil)
  (st_cons (sR [5] (mv 5))
  st_nil)))))))))))
theorem sc_is_hueing : FnScope N_is_hueing P_is_hueing (defScope s_is_hueing) := ⟨rfl, rfl, rfl, by decide +kernel, rfl, by decide +kernel, by decide +kernel⟩
theorem ok_is_hueing {f : Addr} {fd : FuncData} (Fu : Fun K "is_hueing" "is_hueing" s_is_hueing f fd) (T : Txt mg)  : FnOk P w K mg base CX0 1 f fd P_is_hueing (SpF K cl false 3 [] is_hueingF) := by
  refine fn_ok (k := 0) Fu sc_is_hueing rfl (by decide) (by decide) fun cdv A outer s H E hr => ?_
  have hu68 : (A.deeper (envOfC "is_hueing" (defScope s_is_hueing) s.heap.objs.size f cdv)).units + 68 < cLine := by have := hr.un; omega
  have hu : (A.deeper (envOfC "is_hueing" (defScope s_is_hueing) s.heap.objs.size f cdv)).units + 66 < cLine := by omega
  exact (
  (st_cons (sI [2, 5] (L2.PW.pt (tw_orX (tX (qP (ops_ne hu) (bP cls_len T.b_len PySem.boot_len (aP (v 2) aN)) (sP hu (v 0) kI))) (tw_or1 (tt_notX (uX (bX (cs_all rfl) T.b_all PyProof.Rows.boot_all (aX (xL [("hue", 5)] sc_is_hueing.nd (blkOk_by (N := N_is_hueing) (sc := defScope s_is_hueing) (by decide +kernel)) (iS (xv (some 2) (v 2))) (fun _ _ _ _ _ => (gN 5 sc_is_hueing.nd)) (fun _ _ _ _ _ => tts_nil) (fun _ _ _ _ _ => (xv none (hP (os_le) (os_lt) kI (v 5) (v 1))))) aXN)))))))
    (st_cons (sR [] (xv none kB))
    st_nil)
    st_nil)
  (st_cons (sR [0, 3, 4] (bX (cs_all rfl) T.b_all PyProof.Rows.boot_all (aX (xL [("a", 3), ("b", 4)] sc_is_hueing.nd (blkOk_by (N := N_is_hueing) (sc := defScope s_is_hueing) (by decide +kernel)) (iS (xv (some 0) (sP hu (v 0) kI))) (fun _ _ _ _ _ => (gT (gC' (gN 3 sc_is_hueing.nd) (gC' (gN 4 sc_is_hueing.nd) gZ)))) (fun _ _ _ _ _ => tts_nil) (fun _ _ _ _ _ => (xv none (cP (ops_ne hu) (sP hu (v 2) (v 3)) (sP hu (v 2) (v 4)))))) aXN)))
  st_nil)))
theorem sc_law : FnScope N_law P_law (defScope s_law) := ⟨rfl, rfl, rfl, by decide +kernel, rfl, by decide +kernel, by decide +kernel⟩
theorem ok_law {f : Addr} {fd : FuncData} (Fu : Fun K "law" "law" s_law f fd) (T : Txt mg) (K_law_any_web : Is_law_any_web P w K mg base cl) (K_law_draw : Is_law_draw P w K mg base cl) (K_law_hued : Is_law_hued P w K mg base cl) (K_law_is_hueing : Is_law_is_hueing P w K mg base cl) (K_law_pen : Is_law_pen P w K mg base cl) (K_law_spoilt : Is_law_spoilt P w K mg base cl) (K_is_hueing : Is_is_hueing P w K mg base cl) : FnOk P w K mg base CX0 3 f fd P_law (SpF K cl false 1 [] lawF) := by
  refine fn_ok (k := 2) Fu sc_law rfl (by decide) (by decide) fun cdv A outer s H E hr => ?_
  have hu68 : (A.deeper (envOfC "law" (defScope s_law) s.heap.objs.size f cdv)).units + 68 < cLine := by have := hr.un; omega
  have hu : (A.deeper (envOfC "law" (defScope s_law) s.heap.objs.size f cdv)).units + 66 < cLine := by omega
  exact (
  (st_cons (sF [] [1] PassesOwn.never (i2 T.b_range (aX (xv none kI) (aX (xv none (bP (cs_max rfl) T.b_max PyProof.Rows.boot_max (aP kI (aP (bP (cs_min rfl) T.b_min PyProof.Rows.boot_min (aP kI (aP (bP cls_len T.b_len PySem.boot_len (aP (v 0) aN)) aN))) aN)))) aXN))) (gN 1 sc_law.nd)
    (st_cons (sA [0] [2] (fC K_law_pen hr pz (aV (xv (some 0) (v 0)) (aV (xv none (v 1)) aRN)) (nV (nV args_len_nil))) (gN 2 sc_law.nd))
    (st_cons (sA [2] [3] (fC K_law_draw hr pz (aR 2 (aV (xv none kI) aRN)) (nR (nV args_len_nil))) (gN 3 sc_law.nd))
    (st_cons (sA [2] [4] (fC K_law_draw hr pz (aR 2 (aV (xv none kI) aRN)) (nR (nV args_len_nil))) (gN 4 sc_law.nd))
    (st_cons (sA [2] [5] (fC K_law_any_web hr pz (aR 2 (aV (xv none kI) aRN)) (nR (nV args_len_nil))) (gN 5 sc_law.nd))
    (st_cons (sA [2, 5] [6] (fC K_law_spoilt hr pz (aR 2 (aV (xv none (v 3)) (aV (xv (some 5) (v 5)) (aV (xv none (v 4)) (aV (fC K_law_hued hr pz (aR 2 (aV (xv (some 5) (v 5)) (aV (xv none (v 4)) aRN))) (nR (nV (nV args_len_nil)))) aRN))))) (nR (nV (nV (nV (nV args_len_nil)))))) (gN 6 sc_law.nd))
    (st_cons (sF [] [7] PassesOwn.never (iS (tx_lst (aO (xv none (v 4)) (aO (xv none (bP (cs_min rfl) T.b_min PyProof.Rows.boot_min (aP kI (aP (oP os_add (v 4) kI) aN)))) (aO (xv none (bP (cs_max rfl) T.b_max PyProof.Rows.boot_max (aP kI (aP (oP os_sub (v 4) kI) aN)))) (aO (xv none (v 4)) aON)))))) (gN 7 sc_law.nd)
      (st_cons (sA [5, 6, 7] [8] (fC K_is_hueing hr pz (aV (xv (some 5) (v 5)) (aV (xv (some 7) (v 7)) (aV (yA ca_tuple T.b_tuple PyProof.Rows.boot_tuple (aX (xv (some 6) (v 6)) aXN)) aRN))) (nV (nV (nV args_len_nil)))) (gN 8 sc_law.nd))
      (st_cons (sI [5, 6, 7, 8] (L2.PW.pt (tw_orX (tX (tt_notP (uP (bP cs_isinst T.b_isinstance PyProof.Rows.boot_isinstance (aP (v 8) (aP (kTy T.b_bool PyProof.Rows.boot_bool) aN)))))) (tw_or1 (qX (ops_ne hu) (xv (some 8) (v 8)) (fC K_law_is_hueing hr pz (aV (xv (some 5) (v 5)) (aV (xv (some 7) (v 7)) (aV (xv (some 6) (v 6)) aRN))) (nV (nV (nV args_len_nil))))))))
        (st_cons (sR [] (xv none kB))
        st_nil)
        st_nil)
      st_nil)))
    st_nil)))))))
  (st_cons (sR [] (xv none kB))
  st_nil)))
end

end K59
namespace K59
open PySem L2 PX
/-! ### the drawn numbers -/
abbrev penD (a b c : Int) : D := .lst true [.int a, .int b, .int c]
structure Pen (n : Nat) (d : D) : Prop where
  ex : ∃ a b c : Int, d = penD a b c ∧ 0 ≤ a ∧ 0 ≤ b ∧ b ≤ 8589934592 ∧ 0 ≤ c ∧ c ≤ n
theorem Pen.mono {n m : Nat} {d : D} (h : Pen n d) (l : n ≤ m) : Pen m d := by
  obtain ⟨a, b, c, e, h1, h2, h3, h4, h5⟩ := h.ex
  exact ⟨a, b, c, e, h1, h2, h3, h4, by omega⟩
theorem draw_ok {n : Nat} {d : D} (h : Pen n d) (hn : n ≤ 1000000) {m : Int} (h0 : 0 < m) (h1 : m < 1073741824) : Ret (law_drawF [d, .int m]) fun r os => ∃ i d', r = .int i ∧ 0 ≤ i ∧ i < m ∧ os = [d'] ∧ Pen (n + 1) d' := by
  obtain ⟨a, b, c, rfl, ha, hb, hb2, hc, hc2⟩ := h.ex
  refine Q.start (by (simp only [entry, List.map_cons, List.map_nil, List.length_cons, List.length_nil, List.replicate, List.cons_append, List.nil_append, Nat.reduceAdd, Nat.reduceSub]) <;> rfl) ?_
  unfold law_drawB
  (repeat (first | (refine Q.seq ?_) | (refine Q.asg ?_) | (refine Q.ret ?_) | (refine Q.drop ?_) | (refine Q.nxt ?_) | (refine Q.setB rfl ?_) | (refine Q.val (by rfl) (by first | rfl | (simp only [cln_tup, cln_lst, clns_cons, clns_nil, clns_izs, clns_eds, cln_edge, cln_int, Bool.and_self, Bool.not_false, Bool.and_true, Bool.true_and]; first | done | fail)) ?_) | (refine Q.valv (by rfl) ?_) | (refine Q.takeI (by rfl) ?_) | (refine Q.consA ?_) | (refine Q.consO ?_) | (refine Q.nilO ?_) | (refine Q.nilP ?_) | (refine Q.tupM ?_) | (refine Q.lstM ?_) | (refine Q.dicE ?_) | (refine Q.call ?_) | (refine Q.refA (by rfl) ?_) | (refine Q.subI (by rfl) ?_) | (refine Q.valA ?_) | (refine Q.nilA ?_) | (refine Q.op2 ?_) | (refine Q.un ?_) | (refine Q.callA ?_) | (refine Q.callS ?_) | (refine Q.forS ?_) | (refine Q.iter ?_) | (refine Q.rng1 ?_) | (refine Q.rng2 ?_) | (refine Q.gtup rfl ?_) | (refine Q.gcons ?_) | (refine Q.gnil ?_) | (refine Q.put0 (by rfl) ?_) | (refine retK_rt (by rfl) ?_) | (refine ⟨Nat.le_of_ble_eq_true rfl, ?_⟩) | (refine ⟨_, rfl, big_ok (by omega) (by omega), ?_⟩) | (refine ⟨_, _, rfl, Bool.and_eq_true_iff.mpr ⟨big_ok (by omega) (by omega), big_ok (by omega) (by omega)⟩, ?_⟩) | (refine Q.truP ?_) | (refine Q.mbl ?_) | (refine Q.mtru ?_) | (refine Q.mnot ?_) | (refine Q.mor ?_) | (refine Q.mand ?_) | (refine ⟨by rfl, _, _, by rfl, ?_⟩) | (refine ⟨_, _, _, by rfl, by rfl, ?_⟩) | (refine ew_add ?_) | (refine ey_add ?_) | (refine ew_ii (by first | rfl | exact decide_eq_true (by omega) | exact cMul_l (by omega) (by omega) | exact cMul_r (by omega) (by omega)) ?_) | (refine ew_mul (by first | rfl | exact cMul_l (by omega) (by omega) | exact cMul_r (by omega) (by omega)) ?_) | (refine ey_ii (by first | rfl | exact decide_eq_true (by omega) | exact cMul_l (by omega) (by omega) | exact cMul_r (by omega) (by omega)) ?_) | (refine ey_mul (by first | rfl | exact cMul_l (by omega) (by omega) | exact cMul_r (by omega) (by omega)) ?_) | (refine ew_neg ?_) | (refine ey_neg ?_) | (refine ew_iB ?_) | (refine ey_iB ?_) | (refine ⟨_, by rfl, ?_⟩) | (refine ⟨(show List.length _ = _ from rfl), ?_⟩) | (simp only [wip, resto, List.getElem?_cons_zero, List.getElem?_cons_succ, Option.join_some, Option.join_none, Int.reduceToNat, seqK_nx, seqK_rt, turnK_nx, turnK_ct, maxI_eq, minI_eq, izs_len, fz_tup, fz_lst, fz_dic, fzs_eds, fzs_izs, fzs_nil, fzs_cons, takeArgs, refPos, refsOf, putBack, List.set_cons_zero, List.set_cons_succ, fz_int, fz_bl, fz_non])))
  refine Q.ifP (c := decide (0 < a)) (by rfl) (fun hc => ?_) (fun hc => ?_)
  · (repeat (first | (refine Q.seq ?_) | (refine Q.asg ?_) | (refine Q.ret ?_) | (refine Q.drop ?_) | (refine Q.nxt ?_) | (refine Q.setB rfl ?_) | (refine Q.val (by rfl) (by first | rfl | (simp only [cln_tup, cln_lst, clns_cons, clns_nil, clns_izs, clns_eds, cln_edge, cln_int, Bool.and_self, Bool.not_false, Bool.and_true, Bool.true_and]; first | done | fail)) ?_) | (refine Q.valv (by rfl) ?_) | (refine Q.takeI (by rfl) ?_) | (refine Q.consA ?_) | (refine Q.consO ?_) | (refine Q.nilO ?_) | (refine Q.nilP ?_) | (refine Q.tupM ?_) | (refine Q.lstM ?_) | (refine Q.dicE ?_) | (refine Q.call ?_) | (refine Q.refA (by rfl) ?_) | (refine Q.subI (by rfl) ?_) | (refine Q.valA ?_) | (refine Q.nilA ?_) | (refine Q.op2 ?_) | (refine Q.un ?_) | (refine Q.callA ?_) | (refine Q.callS ?_) | (refine Q.forS ?_) | (refine Q.iter ?_) | (refine Q.rng1 ?_) | (refine Q.rng2 ?_) | (refine Q.gtup rfl ?_) | (refine Q.gcons ?_) | (refine Q.gnil ?_) | (refine Q.put0 (by rfl) ?_) | (refine retK_rt (by rfl) ?_) | (refine ⟨Nat.le_of_ble_eq_true rfl, ?_⟩) | (refine ⟨_, rfl, big_ok (by omega) (by omega), ?_⟩) | (refine ⟨_, _, rfl, Bool.and_eq_true_iff.mpr ⟨big_ok (by omega) (by omega), big_ok (by omega) (by omega)⟩, ?_⟩) | (refine Q.truP ?_) | (refine Q.mbl ?_) | (refine Q.mtru ?_) | (refine Q.mnot ?_) | (refine Q.mor ?_) | (refine Q.mand ?_) | (refine ⟨by rfl, _, _, by rfl, ?_⟩) | (refine ⟨_, _, _, by rfl, by rfl, ?_⟩) | (refine ew_add ?_) | (refine ey_add ?_) | (refine ew_ii (by first | rfl | exact decide_eq_true (by omega) | exact cMul_l (by omega) (by omega) | exact cMul_r (by omega) (by omega)) ?_) | (refine ew_mul (by first | rfl | exact cMul_l (by omega) (by omega) | exact cMul_r (by omega) (by omega)) ?_) | (refine ey_ii (by first | rfl | exact decide_eq_true (by omega) | exact cMul_l (by omega) (by omega) | exact cMul_r (by omega) (by omega)) ?_) | (refine ey_mul (by first | rfl | exact cMul_l (by omega) (by omega) | exact cMul_r (by omega) (by omega)) ?_) | (refine ew_neg ?_) | (refine ey_neg ?_) | (refine ew_iB ?_) | (refine ey_iB ?_) | (refine ⟨_, by rfl, ?_⟩) | (refine ⟨(show List.length _ = _ from rfl), ?_⟩) | (simp only [wip, resto, List.getElem?_cons_zero, List.getElem?_cons_succ, Option.join_some, Option.join_none, Int.reduceToNat, seqK_nx, seqK_rt, turnK_nx, turnK_ct, maxI_eq, minI_eq, izs_len, fz_tup, fz_lst, fz_dic, fzs_eds, fzs_izs, fzs_nil, fzs_cons, takeArgs, refPos, refsOf, putBack, List.set_cons_zero, List.set_cons_succ, fz_int, fz_bl, fz_non])))
    (refine Q.val (by (simp (disch := omega) only [Int.reduceToNat, atI_z, atI_1, atI_2, List.set_cons_zero, List.set_cons_succ, pOp2, pVar, pCst, pCall, pCons, pNil, pBl, pTru, pNotB, pAndB, pOrB, pAnd, pOr, pNot, pChain, pIf, pUn, pSnoc, iiI, iiB, subX, lenX, blX, truD, seqD, negX, intX, List.getElem?_cons_zero, List.getElem?_cons_succ, List.nil_append, List.cons_append, Int.reduceLT, Int.reduceLE, and_self, and_true, true_and, Bool.and_true, Bool.true_and, decide_eq_true_eq, if_true, if_pos, decide_true, Option.map_some, Bool.false_eq_true, if_false, maxX, minX, h0]) <;> rfl) (by rfl) ?_)
    (repeat (first | (refine Q.seq ?_) | (refine Q.asg ?_) | (refine Q.ret ?_) | (refine Q.drop ?_) | (refine Q.nxt ?_) | (refine Q.setB rfl ?_) | (refine Q.val (by rfl) (by first | rfl | (simp only [cln_tup, cln_lst, clns_cons, clns_nil, clns_izs, clns_eds, cln_edge, cln_int, Bool.and_self, Bool.not_false, Bool.and_true, Bool.true_and]; first | done | fail)) ?_) | (refine Q.valv (by rfl) ?_) | (refine Q.takeI (by rfl) ?_) | (refine Q.consA ?_) | (refine Q.consO ?_) | (refine Q.nilO ?_) | (refine Q.nilP ?_) | (refine Q.tupM ?_) | (refine Q.lstM ?_) | (refine Q.dicE ?_) | (refine Q.call ?_) | (refine Q.refA (by rfl) ?_) | (refine Q.subI (by rfl) ?_) | (refine Q.valA ?_) | (refine Q.nilA ?_) | (refine Q.op2 ?_) | (refine Q.un ?_) | (refine Q.callA ?_) | (refine Q.callS ?_) | (refine Q.forS ?_) | (refine Q.iter ?_) | (refine Q.rng1 ?_) | (refine Q.rng2 ?_) | (refine Q.gtup rfl ?_) | (refine Q.gcons ?_) | (refine Q.gnil ?_) | (refine Q.put0 (by rfl) ?_) | (refine retK_rt (by rfl) ?_) | (refine ⟨Nat.le_of_ble_eq_true rfl, ?_⟩) | (refine ⟨_, rfl, big_ok (by omega) (by omega), ?_⟩) | (refine ⟨_, _, rfl, Bool.and_eq_true_iff.mpr ⟨big_ok (by omega) (by omega), big_ok (by omega) (by omega)⟩, ?_⟩) | (refine Q.truP ?_) | (refine Q.mbl ?_) | (refine Q.mtru ?_) | (refine Q.mnot ?_) | (refine Q.mor ?_) | (refine Q.mand ?_) | (refine ⟨by rfl, _, _, by rfl, ?_⟩) | (refine ⟨_, _, _, by rfl, by rfl, ?_⟩) | (refine ew_add ?_) | (refine ey_add ?_) | (refine ew_ii (by first | rfl | exact decide_eq_true (by omega) | exact cMul_l (by omega) (by omega) | exact cMul_r (by omega) (by omega)) ?_) | (refine ew_mul (by first | rfl | exact cMul_l (by omega) (by omega) | exact cMul_r (by omega) (by omega)) ?_) | (refine ey_ii (by first | rfl | exact decide_eq_true (by omega) | exact cMul_l (by omega) (by omega) | exact cMul_r (by omega) (by omega)) ?_) | (refine ey_mul (by first | rfl | exact cMul_l (by omega) (by omega) | exact cMul_r (by omega) (by omega)) ?_) | (refine ew_neg ?_) | (refine ey_neg ?_) | (refine ew_iB ?_) | (refine ey_iB ?_) | (refine ⟨_, by rfl, ?_⟩) | (refine ⟨(show List.length _ = _ from rfl), ?_⟩) | (simp only [wip, resto, List.getElem?_cons_zero, List.getElem?_cons_succ, Option.join_some, Option.join_none, Int.reduceToNat, seqK_nx, seqK_rt, turnK_nx, turnK_ct, maxI_eq, minI_eq, izs_len, fz_tup, fz_lst, fz_dic, fzs_eds, fzs_izs, fzs_nil, fzs_cons, takeArgs, refPos, refsOf, putBack, List.set_cons_zero, List.set_cons_succ, fz_int, fz_bl, fz_non])))
    (refine Q.val (by (simp (disch := omega) only [Int.reduceToNat, atI_z, atI_1, atI_2, List.set_cons_zero, List.set_cons_succ, pOp2, pVar, pCst, pCall, pCons, pNil, pBl, pTru, pNotB, pAndB, pOrB, pAnd, pOr, pNot, pChain, pIf, pUn, pSnoc, iiI, iiB, subX, lenX, blX, truD, seqD, negX, intX, List.getElem?_cons_zero, List.getElem?_cons_succ, List.nil_append, List.cons_append, Int.reduceLT, Int.reduceLE, and_self, and_true, true_and, Bool.and_true, Bool.true_and, decide_eq_true_eq, if_true, if_pos, decide_true, Option.map_some, Bool.false_eq_true, if_false, maxX, minX, h0, h1]) <;> rfl) (by rfl) ?_)
    (repeat (first | (refine Q.seq ?_) | (refine Q.asg ?_) | (refine Q.ret ?_) | (refine Q.drop ?_) | (refine Q.nxt ?_) | (refine Q.setB rfl ?_) | (refine Q.val (by rfl) (by first | rfl | (simp only [cln_tup, cln_lst, clns_cons, clns_nil, clns_izs, clns_eds, cln_edge, cln_int, Bool.and_self, Bool.not_false, Bool.and_true, Bool.true_and]; first | done | fail)) ?_) | (refine Q.valv (by rfl) ?_) | (refine Q.takeI (by rfl) ?_) | (refine Q.consA ?_) | (refine Q.consO ?_) | (refine Q.nilO ?_) | (refine Q.nilP ?_) | (refine Q.tupM ?_) | (refine Q.lstM ?_) | (refine Q.dicE ?_) | (refine Q.call ?_) | (refine Q.refA (by rfl) ?_) | (refine Q.subI (by rfl) ?_) | (refine Q.valA ?_) | (refine Q.nilA ?_) | (refine Q.op2 ?_) | (refine Q.un ?_) | (refine Q.callA ?_) | (refine Q.callS ?_) | (refine Q.forS ?_) | (refine Q.iter ?_) | (refine Q.rng1 ?_) | (refine Q.rng2 ?_) | (refine Q.gtup rfl ?_) | (refine Q.gcons ?_) | (refine Q.gnil ?_) | (refine Q.put0 (by rfl) ?_) | (refine retK_rt (by rfl) ?_) | (refine ⟨Nat.le_of_ble_eq_true rfl, ?_⟩) | (refine ⟨_, rfl, big_ok (by omega) (by omega), ?_⟩) | (refine ⟨_, _, rfl, Bool.and_eq_true_iff.mpr ⟨big_ok (by omega) (by omega), big_ok (by omega) (by omega)⟩, ?_⟩) | (refine Q.truP ?_) | (refine Q.mbl ?_) | (refine Q.mtru ?_) | (refine Q.mnot ?_) | (refine Q.mor ?_) | (refine Q.mand ?_) | (refine ⟨by rfl, _, _, by rfl, ?_⟩) | (refine ⟨_, _, _, by rfl, by rfl, ?_⟩) | (refine ew_add ?_) | (refine ey_add ?_) | (refine ew_ii (by first | rfl | exact decide_eq_true (by omega) | exact cMul_l (by omega) (by omega) | exact cMul_r (by omega) (by omega)) ?_) | (refine ew_mul (by first | rfl | exact cMul_l (by omega) (by omega) | exact cMul_r (by omega) (by omega)) ?_) | (refine ey_ii (by first | rfl | exact decide_eq_true (by omega) | exact cMul_l (by omega) (by omega) | exact cMul_r (by omega) (by omega)) ?_) | (refine ey_mul (by first | rfl | exact cMul_l (by omega) (by omega) | exact cMul_r (by omega) (by omega)) ?_) | (refine ew_neg ?_) | (refine ey_neg ?_) | (refine ew_iB ?_) | (refine ey_iB ?_) | (refine ⟨_, by rfl, ?_⟩) | (refine ⟨(show List.length _ = _ from rfl), ?_⟩) | (simp only [wip, resto, List.getElem?_cons_zero, List.getElem?_cons_succ, Option.join_some, Option.join_none, Int.reduceToNat, seqK_nx, seqK_rt, turnK_nx, turnK_ct, maxI_eq, minI_eq, izs_len, fz_tup, fz_lst, fz_dic, fzs_eds, fzs_izs, fzs_nil, fzs_cons, takeArgs, refPos, refsOf, putBack, List.set_cons_zero, List.set_cons_succ, fz_int, fz_bl, fz_non])))
    exact ⟨_, _, rfl, Int.emod_nonneg _ (by omega), Int.emod_lt_of_pos _ h0, rfl, ⟨_, _, _, rfl, Int.ediv_nonneg ha (by omega), hb, hb2, by omega, by omega⟩⟩
  · (repeat (first | (refine Q.seq ?_) | (refine Q.asg ?_) | (refine Q.ret ?_) | (refine Q.drop ?_) | (refine Q.nxt ?_) | (refine Q.setB rfl ?_) | (refine Q.val (by rfl) (by first | rfl | (simp only [cln_tup, cln_lst, clns_cons, clns_nil, clns_izs, clns_eds, cln_edge, cln_int, Bool.and_self, Bool.not_false, Bool.and_true, Bool.true_and]; first | done | fail)) ?_) | (refine Q.valv (by rfl) ?_) | (refine Q.takeI (by rfl) ?_) | (refine Q.consA ?_) | (refine Q.consO ?_) | (refine Q.nilO ?_) | (refine Q.nilP ?_) | (refine Q.tupM ?_) | (refine Q.lstM ?_) | (refine Q.dicE ?_) | (refine Q.call ?_) | (refine Q.refA (by rfl) ?_) | (refine Q.subI (by rfl) ?_) | (refine Q.valA ?_) | (refine Q.nilA ?_) | (refine Q.op2 ?_) | (refine Q.un ?_) | (refine Q.callA ?_) | (refine Q.callS ?_) | (refine Q.forS ?_) | (refine Q.iter ?_) | (refine Q.rng1 ?_) | (refine Q.rng2 ?_) | (refine Q.gtup rfl ?_) | (refine Q.gcons ?_) | (refine Q.gnil ?_) | (refine Q.put0 (by rfl) ?_) | (refine retK_rt (by rfl) ?_) | (refine ⟨Nat.le_of_ble_eq_true rfl, ?_⟩) | (refine ⟨_, rfl, big_ok (by omega) (by omega), ?_⟩) | (refine ⟨_, _, rfl, Bool.and_eq_true_iff.mpr ⟨big_ok (by omega) (by omega), big_ok (by omega) (by omega)⟩, ?_⟩) | (refine Q.truP ?_) | (refine Q.mbl ?_) | (refine Q.mtru ?_) | (refine Q.mnot ?_) | (refine Q.mor ?_) | (refine Q.mand ?_) | (refine ⟨by rfl, _, _, by rfl, ?_⟩) | (refine ⟨_, _, _, by rfl, by rfl, ?_⟩) | (refine ew_add ?_) | (refine ey_add ?_) | (refine ew_ii (by first | rfl | exact decide_eq_true (by omega) | exact cMul_l (by omega) (by omega) | exact cMul_r (by omega) (by omega)) ?_) | (refine ew_mul (by first | rfl | exact cMul_l (by omega) (by omega) | exact cMul_r (by omega) (by omega)) ?_) | (refine ey_ii (by first | rfl | exact decide_eq_true (by omega) | exact cMul_l (by omega) (by omega) | exact cMul_r (by omega) (by omega)) ?_) | (refine ey_mul (by first | rfl | exact cMul_l (by omega) (by omega) | exact cMul_r (by omega) (by omega)) ?_) | (refine ew_neg ?_) | (refine ey_neg ?_) | (refine ew_iB ?_) | (refine ey_iB ?_) | (refine ⟨_, by rfl, ?_⟩) | (refine ⟨(show List.length _ = _ from rfl), ?_⟩) | (simp only [wip, resto, List.getElem?_cons_zero, List.getElem?_cons_succ, Option.join_some, Option.join_none, Int.reduceToNat, seqK_nx, seqK_rt, turnK_nx, turnK_ct, maxI_eq, minI_eq, izs_len, fz_tup, fz_lst, fz_dic, fzs_eds, fzs_izs, fzs_nil, fzs_cons, takeArgs, refPos, refsOf, putBack, List.set_cons_zero, List.set_cons_succ, fz_int, fz_bl, fz_non])))
    obtain ⟨q1, q2⟩ := sq_le (c := c + 1) (by omega) (by omega)
    have e1 := Int.emod_nonneg ((b + 7919 * (c + 1)) ^ 5) (b := 2147483647) (by omega)
    have e2 := Int.emod_lt_of_pos ((b + 7919 * (c + 1)) ^ 5) (b := 2147483647) (by omega)
    refine ew_ii (decide_eq_true ⟨by omega, by omega, by omega⟩) ?_
    (repeat (first | (refine Q.seq ?_) | (refine Q.asg ?_) | (refine Q.ret ?_) | (refine Q.drop ?_) | (refine Q.nxt ?_) | (refine Q.setB rfl ?_) | (refine Q.val (by rfl) (by first | rfl | (simp only [cln_tup, cln_lst, clns_cons, clns_nil, clns_izs, clns_eds, cln_edge, cln_int, Bool.and_self, Bool.not_false, Bool.and_true, Bool.true_and]; first | done | fail)) ?_) | (refine Q.valv (by rfl) ?_) | (refine Q.takeI (by rfl) ?_) | (refine Q.consA ?_) | (refine Q.consO ?_) | (refine Q.nilO ?_) | (refine Q.nilP ?_) | (refine Q.tupM ?_) | (refine Q.lstM ?_) | (refine Q.dicE ?_) | (refine Q.call ?_) | (refine Q.refA (by rfl) ?_) | (refine Q.subI (by rfl) ?_) | (refine Q.valA ?_) | (refine Q.nilA ?_) | (refine Q.op2 ?_) | (refine Q.un ?_) | (refine Q.callA ?_) | (refine Q.callS ?_) | (refine Q.forS ?_) | (refine Q.iter ?_) | (refine Q.rng1 ?_) | (refine Q.rng2 ?_) | (refine Q.gtup rfl ?_) | (refine Q.gcons ?_) | (refine Q.gnil ?_) | (refine Q.put0 (by rfl) ?_) | (refine retK_rt (by rfl) ?_) | (refine ⟨Nat.le_of_ble_eq_true rfl, ?_⟩) | (refine ⟨_, rfl, big_ok (by omega) (by omega), ?_⟩) | (refine ⟨_, _, rfl, Bool.and_eq_true_iff.mpr ⟨big_ok (by omega) (by omega), big_ok (by omega) (by omega)⟩, ?_⟩) | (refine Q.truP ?_) | (refine Q.mbl ?_) | (refine Q.mtru ?_) | (refine Q.mnot ?_) | (refine Q.mor ?_) | (refine Q.mand ?_) | (refine ⟨by rfl, _, _, by rfl, ?_⟩) | (refine ⟨_, _, _, by rfl, by rfl, ?_⟩) | (refine ew_add ?_) | (refine ey_add ?_) | (refine ew_ii (by first | rfl | exact decide_eq_true (by omega) | exact cMul_l (by omega) (by omega) | exact cMul_r (by omega) (by omega)) ?_) | (refine ew_mul (by first | rfl | exact cMul_l (by omega) (by omega) | exact cMul_r (by omega) (by omega)) ?_) | (refine ey_ii (by first | rfl | exact decide_eq_true (by omega) | exact cMul_l (by omega) (by omega) | exact cMul_r (by omega) (by omega)) ?_) | (refine ey_mul (by first | rfl | exact cMul_l (by omega) (by omega) | exact cMul_r (by omega) (by omega)) ?_) | (refine ew_neg ?_) | (refine ey_neg ?_) | (refine ew_iB ?_) | (refine ey_iB ?_) | (refine ⟨_, by rfl, ?_⟩) | (refine ⟨(show List.length _ = _ from rfl), ?_⟩) | (simp only [wip, resto, List.getElem?_cons_zero, List.getElem?_cons_succ, Option.join_some, Option.join_none, Int.reduceToNat, seqK_nx, seqK_rt, turnK_nx, turnK_ct, maxI_eq, minI_eq, izs_len, fz_tup, fz_lst, fz_dic, fzs_eds, fzs_izs, fzs_nil, fzs_cons, takeArgs, refPos, refsOf, putBack, List.set_cons_zero, List.set_cons_succ, fz_int, fz_bl, fz_non])))
    (refine Q.val (by (simp (disch := omega) only [Int.reduceToNat, atI_z, atI_1, atI_2, List.set_cons_zero, List.set_cons_succ, pOp2, pVar, pCst, pCall, pCons, pNil, pBl, pTru, pNotB, pAndB, pOrB, pAnd, pOr, pNot, pChain, pIf, pUn, pSnoc, iiI, iiB, subX, lenX, blX, truD, seqD, negX, intX, List.getElem?_cons_zero, List.getElem?_cons_succ, List.nil_append, List.cons_append, Int.reduceLT, Int.reduceLE, and_self, and_true, true_and, Bool.and_true, Bool.true_and, decide_eq_true_eq, if_true, if_pos, decide_true, Option.map_some, Bool.false_eq_true, if_false, maxX, minX, h0]) <;> rfl) (by rfl) ?_)
    (repeat (first | (refine Q.seq ?_) | (refine Q.asg ?_) | (refine Q.ret ?_) | (refine Q.drop ?_) | (refine Q.nxt ?_) | (refine Q.setB rfl ?_) | (refine Q.val (by rfl) (by first | rfl | (simp only [cln_tup, cln_lst, clns_cons, clns_nil, clns_izs, clns_eds, cln_edge, cln_int, Bool.and_self, Bool.not_false, Bool.and_true, Bool.true_and]; first | done | fail)) ?_) | (refine Q.valv (by rfl) ?_) | (refine Q.takeI (by rfl) ?_) | (refine Q.consA ?_) | (refine Q.consO ?_) | (refine Q.nilO ?_) | (refine Q.nilP ?_) | (refine Q.tupM ?_) | (refine Q.lstM ?_) | (refine Q.dicE ?_) | (refine Q.call ?_) | (refine Q.refA (by rfl) ?_) | (refine Q.subI (by rfl) ?_) | (refine Q.valA ?_) | (refine Q.nilA ?_) | (refine Q.op2 ?_) | (refine Q.un ?_) | (refine Q.callA ?_) | (refine Q.callS ?_) | (refine Q.forS ?_) | (refine Q.iter ?_) | (refine Q.rng1 ?_) | (refine Q.rng2 ?_) | (refine Q.gtup rfl ?_) | (refine Q.gcons ?_) | (refine Q.gnil ?_) | (refine Q.put0 (by rfl) ?_) | (refine retK_rt (by rfl) ?_) | (refine ⟨Nat.le_of_ble_eq_true rfl, ?_⟩) | (refine ⟨_, rfl, big_ok (by omega) (by omega), ?_⟩) | (refine ⟨_, _, rfl, Bool.and_eq_true_iff.mpr ⟨big_ok (by omega) (by omega), big_ok (by omega) (by omega)⟩, ?_⟩) | (refine Q.truP ?_) | (refine Q.mbl ?_) | (refine Q.mtru ?_) | (refine Q.mnot ?_) | (refine Q.mor ?_) | (refine Q.mand ?_) | (refine ⟨by rfl, _, _, by rfl, ?_⟩) | (refine ⟨_, _, _, by rfl, by rfl, ?_⟩) | (refine ew_add ?_) | (refine ey_add ?_) | (refine ew_ii (by first | rfl | exact decide_eq_true (by omega) | exact cMul_l (by omega) (by omega) | exact cMul_r (by omega) (by omega)) ?_) | (refine ew_mul (by first | rfl | exact cMul_l (by omega) (by omega) | exact cMul_r (by omega) (by omega)) ?_) | (refine ey_ii (by first | rfl | exact decide_eq_true (by omega) | exact cMul_l (by omega) (by omega) | exact cMul_r (by omega) (by omega)) ?_) | (refine ey_mul (by first | rfl | exact cMul_l (by omega) (by omega) | exact cMul_r (by omega) (by omega)) ?_) | (refine ew_neg ?_) | (refine ey_neg ?_) | (refine ew_iB ?_) | (refine ey_iB ?_) | (refine ⟨_, by rfl, ?_⟩) | (refine ⟨(show List.length _ = _ from rfl), ?_⟩) | (simp only [wip, resto, List.getElem?_cons_zero, List.getElem?_cons_succ, Option.join_some, Option.join_none, Int.reduceToNat, seqK_nx, seqK_rt, turnK_nx, turnK_ct, maxI_eq, minI_eq, izs_len, fz_tup, fz_lst, fz_dic, fzs_eds, fzs_izs, fzs_nil, fzs_cons, takeArgs, refPos, refsOf, putBack, List.set_cons_zero, List.set_cons_succ, fz_int, fz_bl, fz_non])))
    exact ⟨_, _, rfl, Int.emod_nonneg _ (by omega), Int.emod_lt_of_pos _ h0, rfl, ⟨_, _, _, rfl, ha, hb, hb2, by omega, by omega⟩⟩
theorem pen_ok {ns : List Int} {t : Int} (ht : 0 ≤ t) (ht2 : t ≤ 1000) : Ret (law_penF [.klst (izs ns), .int t]) fun r os => Pen 0 r ∧ os = [] := by
  refine Q.start (by (simp only [entry, List.map_cons, List.map_nil, List.length_cons, List.length_nil, List.replicate, List.cons_append, List.nil_append, Nat.reduceAdd, Nat.reduceSub]) <;> rfl) ?_
  unfold law_penB
  (repeat (first | (refine Q.seq ?_) | (refine Q.asg ?_) | (refine Q.ret ?_) | (refine Q.drop ?_) | (refine Q.nxt ?_) | (refine Q.setB rfl ?_) | (refine Q.val (by rfl) (by first | rfl | (simp only [cln_tup, cln_lst, clns_cons, clns_nil, clns_izs, clns_eds, cln_edge, cln_int, Bool.and_self, Bool.not_false, Bool.and_true, Bool.true_and]; first | done | fail)) ?_) | (refine Q.valv (by rfl) ?_) | (refine Q.takeI (by rfl) ?_) | (refine Q.consA ?_) | (refine Q.consO ?_) | (refine Q.nilO ?_) | (refine Q.nilP ?_) | (refine Q.tupM ?_) | (refine Q.lstM ?_) | (refine Q.dicE ?_) | (refine Q.call ?_) | (refine Q.refA (by rfl) ?_) | (refine Q.subI (by rfl) ?_) | (refine Q.valA ?_) | (refine Q.nilA ?_) | (refine Q.op2 ?_) | (refine Q.un ?_) | (refine Q.callA ?_) | (refine Q.callS ?_) | (refine Q.forS ?_) | (refine Q.iter ?_) | (refine Q.rng1 ?_) | (refine Q.rng2 ?_) | (refine Q.gtup rfl ?_) | (refine Q.gcons ?_) | (refine Q.gnil ?_) | (refine Q.put0 (by rfl) ?_) | (refine retK_rt (by rfl) ?_) | (refine ⟨Nat.le_of_ble_eq_true rfl, ?_⟩) | (refine ⟨_, rfl, big_ok (by omega) (by omega), ?_⟩) | (refine ⟨_, _, rfl, Bool.and_eq_true_iff.mpr ⟨big_ok (by omega) (by omega), big_ok (by omega) (by omega)⟩, ?_⟩) | (refine Q.truP ?_) | (refine Q.mbl ?_) | (refine Q.mtru ?_) | (refine Q.mnot ?_) | (refine Q.mor ?_) | (refine Q.mand ?_) | (refine ⟨by rfl, _, _, by rfl, ?_⟩) | (refine ⟨_, _, _, by rfl, by rfl, ?_⟩) | (refine ew_add ?_) | (refine ey_add ?_) | (refine ew_ii (by first | rfl | exact decide_eq_true (by omega) | exact cMul_l (by omega) (by omega) | exact cMul_r (by omega) (by omega)) ?_) | (refine ew_mul (by first | rfl | exact cMul_l (by omega) (by omega) | exact cMul_r (by omega) (by omega)) ?_) | (refine ey_ii (by first | rfl | exact decide_eq_true (by omega) | exact cMul_l (by omega) (by omega) | exact cMul_r (by omega) (by omega)) ?_) | (refine ey_mul (by first | rfl | exact cMul_l (by omega) (by omega) | exact cMul_r (by omega) (by omega)) ?_) | (refine ew_neg ?_) | (refine ey_neg ?_) | (refine ew_iB ?_) | (refine ey_iB ?_) | (refine ⟨_, by rfl, ?_⟩) | (refine ⟨(show List.length _ = _ from rfl), ?_⟩) | (simp only [wip, resto, List.getElem?_cons_zero, List.getElem?_cons_succ, Option.join_some, Option.join_none, Int.reduceToNat, seqK_nx, seqK_rt, turnK_nx, turnK_ct, maxI_eq, minI_eq, izs_len, fz_tup, fz_lst, fz_dic, fzs_eds, fzs_izs, fzs_nil, fzs_cons, takeArgs, refPos, refsOf, putBack, List.set_cons_zero, List.set_cons_succ, fz_int, fz_bl, fz_non])))
  have fin : ∀ own x : Int, 0 ≤ own → Pen 0 (D.lst true [.int own, .int (x % 2147483629 + 1009 * t + 17), .int 0]) := fun own x ho => by
    have e1 := Int.emod_nonneg x (b := 2147483629) (by omega)
    have e2 := Int.emod_lt_of_pos x (b := 2147483629) (by omega)
    exact ⟨_, _, _, rfl, ho, by omega, by omega, by omega, by omega⟩
  refine Q.ifP (c := decide (0 < (ns.length : Int))) (by (simp (disch := omega) only [Int.reduceToNat, atI_z, atI_1, atI_2, List.set_cons_zero, List.set_cons_succ, pOp2, pVar, pCst, pCall, pCons, pNil, pBl, pTru, pNotB, pAndB, pOrB, pAnd, pOr, pNot, pChain, pIf, pUn, pSnoc, iiI, iiB, subX, lenX, blX, truD, seqD, negX, intX, List.getElem?_cons_zero, List.getElem?_cons_succ, List.nil_append, List.cons_append, Int.reduceLT, Int.reduceLE, and_self, and_true, true_and, Bool.and_true, Bool.true_and, decide_eq_true_eq, if_true, if_pos, decide_true, Option.map_some, Bool.false_eq_true, if_false, maxX, minX, List.length_map]) <;> rfl) (fun hc => ?_) (fun hc => ?_)
  · have hl := of_decide_eq_true hc
    obtain ⟨x, _, _, e⟩ := atI_izs (Int.emod_nonneg t (b := ns.length) (by omega)) (Int.emod_lt_of_pos t hl)
    (repeat (first | (refine Q.seq ?_) | (refine Q.asg ?_) | (refine Q.ret ?_) | (refine Q.drop ?_) | (refine Q.nxt ?_) | (refine Q.setB rfl ?_) | (refine Q.val (by rfl) (by first | rfl | (simp only [cln_tup, cln_lst, clns_cons, clns_nil, clns_izs, clns_eds, cln_edge, cln_int, Bool.and_self, Bool.not_false, Bool.and_true, Bool.true_and]; first | done | fail)) ?_) | (refine Q.valv (by rfl) ?_) | (refine Q.takeI (by rfl) ?_) | (refine Q.consA ?_) | (refine Q.consO ?_) | (refine Q.nilO ?_) | (refine Q.nilP ?_) | (refine Q.tupM ?_) | (refine Q.lstM ?_) | (refine Q.dicE ?_) | (refine Q.call ?_) | (refine Q.refA (by rfl) ?_) | (refine Q.subI (by rfl) ?_) | (refine Q.valA ?_) | (refine Q.nilA ?_) | (refine Q.op2 ?_) | (refine Q.un ?_) | (refine Q.callA ?_) | (refine Q.callS ?_) | (refine Q.forS ?_) | (refine Q.iter ?_) | (refine Q.rng1 ?_) | (refine Q.rng2 ?_) | (refine Q.gtup rfl ?_) | (refine Q.gcons ?_) | (refine Q.gnil ?_) | (refine Q.put0 (by rfl) ?_) | (refine retK_rt (by rfl) ?_) | (refine ⟨Nat.le_of_ble_eq_true rfl, ?_⟩) | (refine ⟨_, rfl, big_ok (by omega) (by omega), ?_⟩) | (refine ⟨_, _, rfl, Bool.and_eq_true_iff.mpr ⟨big_ok (by omega) (by omega), big_ok (by omega) (by omega)⟩, ?_⟩) | (refine Q.truP ?_) | (refine Q.mbl ?_) | (refine Q.mtru ?_) | (refine Q.mnot ?_) | (refine Q.mor ?_) | (refine Q.mand ?_) | (refine ⟨by rfl, _, _, by rfl, ?_⟩) | (refine ⟨_, _, _, by rfl, by rfl, ?_⟩) | (refine ew_add ?_) | (refine ey_add ?_) | (refine ew_ii (by first | rfl | exact decide_eq_true (by omega) | exact cMul_l (by omega) (by omega) | exact cMul_r (by omega) (by omega)) ?_) | (refine ew_mul (by first | rfl | exact cMul_l (by omega) (by omega) | exact cMul_r (by omega) (by omega)) ?_) | (refine ey_ii (by first | rfl | exact decide_eq_true (by omega) | exact cMul_l (by omega) (by omega) | exact cMul_r (by omega) (by omega)) ?_) | (refine ey_mul (by first | rfl | exact cMul_l (by omega) (by omega) | exact cMul_r (by omega) (by omega)) ?_) | (refine ew_neg ?_) | (refine ey_neg ?_) | (refine ew_iB ?_) | (refine ey_iB ?_) | (refine ⟨_, by rfl, ?_⟩) | (refine ⟨(show List.length _ = _ from rfl), ?_⟩) | (simp only [wip, resto, List.getElem?_cons_zero, List.getElem?_cons_succ, Option.join_some, Option.join_none, Int.reduceToNat, seqK_nx, seqK_rt, turnK_nx, turnK_ct, maxI_eq, minI_eq, izs_len, fz_tup, fz_lst, fz_dic, fzs_eds, fzs_izs, fzs_nil, fzs_cons, takeArgs, refPos, refsOf, putBack, List.set_cons_zero, List.set_cons_succ, fz_int, fz_bl, fz_non])))
    (refine Q.val (by (simp (disch := omega) only [Int.reduceToNat, atI_z, atI_1, atI_2, List.set_cons_zero, List.set_cons_succ, pOp2, pVar, pCst, pCall, pCons, pNil, pBl, pTru, pNotB, pAndB, pOrB, pAnd, pOr, pNot, pChain, pIf, pUn, pSnoc, iiI, iiB, subX, lenX, blX, truD, seqD, negX, intX, List.getElem?_cons_zero, List.getElem?_cons_succ, List.nil_append, List.cons_append, Int.reduceLT, Int.reduceLE, and_self, and_true, true_and, Bool.and_true, Bool.true_and, decide_eq_true_eq, if_true, if_pos, decide_true, Option.map_some, Bool.false_eq_true, if_false, maxX, minX, List.length_map, e, hl]) <;> rfl) (by rfl) ?_)
    (repeat (first | (refine Q.seq ?_) | (refine Q.asg ?_) | (refine Q.ret ?_) | (refine Q.drop ?_) | (refine Q.nxt ?_) | (refine Q.setB rfl ?_) | (refine Q.val (by rfl) (by first | rfl | (simp only [cln_tup, cln_lst, clns_cons, clns_nil, clns_izs, clns_eds, cln_edge, cln_int, Bool.and_self, Bool.not_false, Bool.and_true, Bool.true_and]; first | done | fail)) ?_) | (refine Q.valv (by rfl) ?_) | (refine Q.takeI (by rfl) ?_) | (refine Q.consA ?_) | (refine Q.consO ?_) | (refine Q.nilO ?_) | (refine Q.nilP ?_) | (refine Q.tupM ?_) | (refine Q.lstM ?_) | (refine Q.dicE ?_) | (refine Q.call ?_) | (refine Q.refA (by rfl) ?_) | (refine Q.subI (by rfl) ?_) | (refine Q.valA ?_) | (refine Q.nilA ?_) | (refine Q.op2 ?_) | (refine Q.un ?_) | (refine Q.callA ?_) | (refine Q.callS ?_) | (refine Q.forS ?_) | (refine Q.iter ?_) | (refine Q.rng1 ?_) | (refine Q.rng2 ?_) | (refine Q.gtup rfl ?_) | (refine Q.gcons ?_) | (refine Q.gnil ?_) | (refine Q.put0 (by rfl) ?_) | (refine retK_rt (by rfl) ?_) | (refine ⟨Nat.le_of_ble_eq_true rfl, ?_⟩) | (refine ⟨_, rfl, big_ok (by omega) (by omega), ?_⟩) | (refine ⟨_, _, rfl, Bool.and_eq_true_iff.mpr ⟨big_ok (by omega) (by omega), big_ok (by omega) (by omega)⟩, ?_⟩) | (refine Q.truP ?_) | (refine Q.mbl ?_) | (refine Q.mtru ?_) | (refine Q.mnot ?_) | (refine Q.mor ?_) | (refine Q.mand ?_) | (refine ⟨by rfl, _, _, by rfl, ?_⟩) | (refine ⟨_, _, _, by rfl, by rfl, ?_⟩) | (refine ew_add ?_) | (refine ey_add ?_) | (refine ew_ii (by first | rfl | exact decide_eq_true (by omega) | exact cMul_l (by omega) (by omega) | exact cMul_r (by omega) (by omega)) ?_) | (refine ew_mul (by first | rfl | exact cMul_l (by omega) (by omega) | exact cMul_r (by omega) (by omega)) ?_) | (refine ey_ii (by first | rfl | exact decide_eq_true (by omega) | exact cMul_l (by omega) (by omega) | exact cMul_r (by omega) (by omega)) ?_) | (refine ey_mul (by first | rfl | exact cMul_l (by omega) (by omega) | exact cMul_r (by omega) (by omega)) ?_) | (refine ew_neg ?_) | (refine ey_neg ?_) | (refine ew_iB ?_) | (refine ey_iB ?_) | (refine ⟨_, by rfl, ?_⟩) | (refine ⟨(show List.length _ = _ from rfl), ?_⟩) | (simp only [wip, resto, List.getElem?_cons_zero, List.getElem?_cons_succ, Option.join_some, Option.join_none, Int.reduceToNat, seqK_nx, seqK_rt, turnK_nx, turnK_ct, maxI_eq, minI_eq, izs_len, fz_tup, fz_lst, fz_dic, fzs_eds, fzs_izs, fzs_nil, fzs_cons, takeArgs, refPos, refsOf, putBack, List.set_cons_zero, List.set_cons_succ, fz_int, fz_bl, fz_non])))
    refine Q.val (d := .int (x * if decide (1000000000000000000 ≤ x) && decide (t < ns.length) then 1 else 0)) (ev_op (by rfl) (ev_call (ev_cons (ev_andD (k := decide (1000000000000000000 ≤ x)) (l := decide (t < ns.length)) (by rfl) (fun _ => (by (simp (disch := omega) only [Int.reduceToNat, atI_z, atI_1, atI_2, List.set_cons_zero, List.set_cons_succ, pOp2, pVar, pCst, pCall, pCons, pNil, pBl, pTru, pNotB, pAndB, pOrB, pAnd, pOr, pNot, pChain, pIf, pUn, pSnoc, iiI, iiB, subX, lenX, blX, truD, seqD, negX, intX, List.getElem?_cons_zero, List.getElem?_cons_succ, List.nil_append, List.cons_append, Int.reduceLT, Int.reduceLE, and_self, and_true, true_and, Bool.and_true, Bool.true_and, decide_eq_true_eq, if_true, if_pos, decide_true, Option.map_some, Bool.false_eq_true, if_false, maxX, minX, List.length_map]) <;> rfl))) ev_nil) (by rfl)) ?_) (by rfl) ?_
    · unfold mulI iiI
      simp only
      rw [if_pos (cMul_r (by split <;> omega) (by split <;> omega))]
    (repeat (first | (refine Q.seq ?_) | (refine Q.asg ?_) | (refine Q.ret ?_) | (refine Q.drop ?_) | (refine Q.nxt ?_) | (refine Q.setB rfl ?_) | (refine Q.val (by rfl) (by first | rfl | (simp only [cln_tup, cln_lst, clns_cons, clns_nil, clns_izs, clns_eds, cln_edge, cln_int, Bool.and_self, Bool.not_false, Bool.and_true, Bool.true_and]; first | done | fail)) ?_) | (refine Q.valv (by rfl) ?_) | (refine Q.takeI (by rfl) ?_) | (refine Q.consA ?_) | (refine Q.consO ?_) | (refine Q.nilO ?_) | (refine Q.nilP ?_) | (refine Q.tupM ?_) | (refine Q.lstM ?_) | (refine Q.dicE ?_) | (refine Q.call ?_) | (refine Q.refA (by rfl) ?_) | (refine Q.subI (by rfl) ?_) | (refine Q.valA ?_) | (refine Q.nilA ?_) | (refine Q.op2 ?_) | (refine Q.un ?_) | (refine Q.callA ?_) | (refine Q.callS ?_) | (refine Q.forS ?_) | (refine Q.iter ?_) | (refine Q.rng1 ?_) | (refine Q.rng2 ?_) | (refine Q.gtup rfl ?_) | (refine Q.gcons ?_) | (refine Q.gnil ?_) | (refine Q.put0 (by rfl) ?_) | (refine retK_rt (by rfl) ?_) | (refine ⟨Nat.le_of_ble_eq_true rfl, ?_⟩) | (refine ⟨_, rfl, big_ok (by omega) (by omega), ?_⟩) | (refine ⟨_, _, rfl, Bool.and_eq_true_iff.mpr ⟨big_ok (by omega) (by omega), big_ok (by omega) (by omega)⟩, ?_⟩) | (refine Q.truP ?_) | (refine Q.mbl ?_) | (refine Q.mtru ?_) | (refine Q.mnot ?_) | (refine Q.mor ?_) | (refine Q.mand ?_) | (refine ⟨by rfl, _, _, by rfl, ?_⟩) | (refine ⟨_, _, _, by rfl, by rfl, ?_⟩) | (refine ew_add ?_) | (refine ey_add ?_) | (refine ew_ii (by first | rfl | exact decide_eq_true (by omega) | exact cMul_l (by omega) (by omega) | exact cMul_r (by omega) (by omega)) ?_) | (refine ew_mul (by first | rfl | exact cMul_l (by omega) (by omega) | exact cMul_r (by omega) (by omega)) ?_) | (refine ey_ii (by first | rfl | exact decide_eq_true (by omega) | exact cMul_l (by omega) (by omega) | exact cMul_r (by omega) (by omega)) ?_) | (refine ey_mul (by first | rfl | exact cMul_l (by omega) (by omega) | exact cMul_r (by omega) (by omega)) ?_) | (refine ew_neg ?_) | (refine ey_neg ?_) | (refine ew_iB ?_) | (refine ey_iB ?_) | (refine ⟨_, by rfl, ?_⟩) | (refine ⟨(show List.length _ = _ from rfl), ?_⟩) | (simp only [wip, resto, List.getElem?_cons_zero, List.getElem?_cons_succ, Option.join_some, Option.join_none, Int.reduceToNat, seqK_nx, seqK_rt, turnK_nx, turnK_ct, maxI_eq, minI_eq, izs_len, fz_tup, fz_lst, fz_dic, fzs_eds, fzs_izs, fzs_nil, fzs_cons, takeArgs, refPos, refsOf, putBack, List.set_cons_zero, List.set_cons_succ, fz_int, fz_bl, fz_non])))
    refine ⟨fin _ _ ?_, trivial⟩
    split
    · rename_i h
      have := of_decide_eq_true (Bool.and_eq_true_iff.mp h).1
      omega
    · omega
  · (repeat (first | (refine Q.seq ?_) | (refine Q.asg ?_) | (refine Q.ret ?_) | (refine Q.drop ?_) | (refine Q.nxt ?_) | (refine Q.setB rfl ?_) | (refine Q.val (by rfl) (by first | rfl | (simp only [cln_tup, cln_lst, clns_cons, clns_nil, clns_izs, clns_eds, cln_edge, cln_int, Bool.and_self, Bool.not_false, Bool.and_true, Bool.true_and]; first | done | fail)) ?_) | (refine Q.valv (by rfl) ?_) | (refine Q.takeI (by rfl) ?_) | (refine Q.consA ?_) | (refine Q.consO ?_) | (refine Q.nilO ?_) | (refine Q.nilP ?_) | (refine Q.tupM ?_) | (refine Q.lstM ?_) | (refine Q.dicE ?_) | (refine Q.call ?_) | (refine Q.refA (by rfl) ?_) | (refine Q.subI (by rfl) ?_) | (refine Q.valA ?_) | (refine Q.nilA ?_) | (refine Q.op2 ?_) | (refine Q.un ?_) | (refine Q.callA ?_) | (refine Q.callS ?_) | (refine Q.forS ?_) | (refine Q.iter ?_) | (refine Q.rng1 ?_) | (refine Q.rng2 ?_) | (refine Q.gtup rfl ?_) | (refine Q.gcons ?_) | (refine Q.gnil ?_) | (refine Q.put0 (by rfl) ?_) | (refine retK_rt (by rfl) ?_) | (refine ⟨Nat.le_of_ble_eq_true rfl, ?_⟩) | (refine ⟨_, rfl, big_ok (by omega) (by omega), ?_⟩) | (refine ⟨_, _, rfl, Bool.and_eq_true_iff.mpr ⟨big_ok (by omega) (by omega), big_ok (by omega) (by omega)⟩, ?_⟩) | (refine Q.truP ?_) | (refine Q.mbl ?_) | (refine Q.mtru ?_) | (refine Q.mnot ?_) | (refine Q.mor ?_) | (refine Q.mand ?_) | (refine ⟨by rfl, _, _, by rfl, ?_⟩) | (refine ⟨_, _, _, by rfl, by rfl, ?_⟩) | (refine ew_add ?_) | (refine ey_add ?_) | (refine ew_ii (by first | rfl | exact decide_eq_true (by omega) | exact cMul_l (by omega) (by omega) | exact cMul_r (by omega) (by omega)) ?_) | (refine ew_mul (by first | rfl | exact cMul_l (by omega) (by omega) | exact cMul_r (by omega) (by omega)) ?_) | (refine ey_ii (by first | rfl | exact decide_eq_true (by omega) | exact cMul_l (by omega) (by omega) | exact cMul_r (by omega) (by omega)) ?_) | (refine ey_mul (by first | rfl | exact cMul_l (by omega) (by omega) | exact cMul_r (by omega) (by omega)) ?_) | (refine ew_neg ?_) | (refine ey_neg ?_) | (refine ew_iB ?_) | (refine ey_iB ?_) | (refine ⟨_, by rfl, ?_⟩) | (refine ⟨(show List.length _ = _ from rfl), ?_⟩) | (simp only [wip, resto, List.getElem?_cons_zero, List.getElem?_cons_succ, Option.join_some, Option.join_none, Int.reduceToNat, seqK_nx, seqK_rt, turnK_nx, turnK_ct, maxI_eq, minI_eq, izs_len, fz_tup, fz_lst, fz_dic, fzs_eds, fzs_izs, fzs_nil, fzs_cons, takeArgs, refPos, refsOf, putBack, List.set_cons_zero, List.set_cons_succ, fz_int, fz_bl, fz_non])))
    exact ⟨fin 0 0 (by omega), trivial⟩
theorem near_ok {n : Int} {es : List (Int × Int)} (hn : 0 ≤ n) (hn2 : n ≤ 100000) (he : ∀ e ∈ es, 0 ≤ e.1 ∧ e.1 < e.2 ∧ e.2 < n) (hl : es.length ≤ 100000) : Ret (law_nearF [webD n es]) fun r os => os = [] ∧ ∃ L : List (List Int), r = .lst true (L.map fun l => .lst true (izs l)) ∧ L.length = n ∧ ∀ l ∈ L, l.length ≤ 2 * es.length ∧ ∀ x ∈ l, 0 ≤ x ∧ x < n := by
  refine Q.start (by (simp only [entry, List.map_cons, List.map_nil, List.length_cons, List.length_nil, List.replicate, List.cons_append, List.nil_append, Nat.reduceAdd, Nat.reduceSub]) <;> rfl) ?_
  unfold law_nearB
  (repeat (first | (refine Q.seq ?_) | (refine Q.asg ?_) | (refine Q.ret ?_) | (refine Q.drop ?_) | (refine Q.nxt ?_) | (refine Q.setB rfl ?_) | (refine Q.val (by rfl) (by first | rfl | (simp only [cln_tup, cln_lst, clns_cons, clns_nil, clns_izs, clns_eds, cln_edge, cln_int, Bool.and_self, Bool.not_false, Bool.and_true, Bool.true_and]; first | done | fail)) ?_) | (refine Q.valv (by rfl) ?_) | (refine Q.takeI (by rfl) ?_) | (refine Q.consA ?_) | (refine Q.consO ?_) | (refine Q.nilO ?_) | (refine Q.nilP ?_) | (refine Q.tupM ?_) | (refine Q.lstM ?_) | (refine Q.dicE ?_) | (refine Q.call ?_) | (refine Q.refA (by rfl) ?_) | (refine Q.subI (by rfl) ?_) | (refine Q.valA ?_) | (refine Q.nilA ?_) | (refine Q.op2 ?_) | (refine Q.un ?_) | (refine Q.callA ?_) | (refine Q.callS ?_) | (refine Q.forS ?_) | (refine Q.iter ?_) | (refine Q.rng1 ?_) | (refine Q.rng2 ?_) | (refine Q.gtup rfl ?_) | (refine Q.gcons ?_) | (refine Q.gnil ?_) | (refine Q.put0 (by rfl) ?_) | (refine retK_rt (by rfl) ?_) | (refine ⟨Nat.le_of_ble_eq_true rfl, ?_⟩) | (refine ⟨_, rfl, big_ok (by omega) (by omega), ?_⟩) | (refine ⟨_, _, rfl, Bool.and_eq_true_iff.mpr ⟨big_ok (by omega) (by omega), big_ok (by omega) (by omega)⟩, ?_⟩) | (refine Q.truP ?_) | (refine Q.mbl ?_) | (refine Q.mtru ?_) | (refine Q.mnot ?_) | (refine Q.mor ?_) | (refine Q.mand ?_) | (refine ⟨by rfl, _, _, by rfl, ?_⟩) | (refine ⟨_, _, _, by rfl, by rfl, ?_⟩) | (refine ew_add ?_) | (refine ey_add ?_) | (refine ew_ii (by first | rfl | exact decide_eq_true (by omega) | exact cMul_l (by omega) (by omega) | exact cMul_r (by omega) (by omega)) ?_) | (refine ew_mul (by first | rfl | exact cMul_l (by omega) (by omega) | exact cMul_r (by omega) (by omega)) ?_) | (refine ey_ii (by first | rfl | exact decide_eq_true (by omega) | exact cMul_l (by omega) (by omega) | exact cMul_r (by omega) (by omega)) ?_) | (refine ey_mul (by first | rfl | exact cMul_l (by omega) (by omega) | exact cMul_r (by omega) (by omega)) ?_) | (refine ew_neg ?_) | (refine ey_neg ?_) | (refine ew_iB ?_) | (refine ey_iB ?_) | (refine ⟨_, by rfl, ?_⟩) | (refine ⟨(show List.length _ = _ from rfl), ?_⟩) | (simp only [wip, resto, List.getElem?_cons_zero, List.getElem?_cons_succ, Option.join_some, Option.join_none, Int.reduceToNat, seqK_nx, seqK_rt, turnK_nx, turnK_ct, maxI_eq, minI_eq, izs_len, fz_tup, fz_lst, fz_dic, fzs_eds, fzs_izs, fzs_nil, fzs_cons, takeArgs, refPos, refsOf, putBack, List.set_cons_zero, List.set_cons_succ, fz_int, fz_bl, fz_non])))
  (refine Q.lcF ?_; (repeat (first | (refine Q.seq ?_) | (refine Q.asg ?_) | (refine Q.ret ?_) | (refine Q.drop ?_) | (refine Q.nxt ?_) | (refine Q.setB rfl ?_) | (refine Q.val (by rfl) (by first | rfl | (simp only [cln_tup, cln_lst, clns_cons, clns_nil, clns_izs, clns_eds, cln_edge, cln_int, Bool.and_self, Bool.not_false, Bool.and_true, Bool.true_and]; first | done | fail)) ?_) | (refine Q.valv (by rfl) ?_) | (refine Q.takeI (by rfl) ?_) | (refine Q.consA ?_) | (refine Q.consO ?_) | (refine Q.nilO ?_) | (refine Q.nilP ?_) | (refine Q.tupM ?_) | (refine Q.lstM ?_) | (refine Q.dicE ?_) | (refine Q.call ?_) | (refine Q.refA (by rfl) ?_) | (refine Q.subI (by rfl) ?_) | (refine Q.valA ?_) | (refine Q.nilA ?_) | (refine Q.op2 ?_) | (refine Q.un ?_) | (refine Q.callA ?_) | (refine Q.callS ?_) | (refine Q.forS ?_) | (refine Q.iter ?_) | (refine Q.rng1 ?_) | (refine Q.rng2 ?_) | (refine Q.gtup rfl ?_) | (refine Q.gcons ?_) | (refine Q.gnil ?_) | (refine Q.put0 (by rfl) ?_) | (refine retK_rt (by rfl) ?_) | (refine ⟨Nat.le_of_ble_eq_true rfl, ?_⟩) | (refine ⟨_, rfl, big_ok (by omega) (by omega), ?_⟩) | (refine ⟨_, _, rfl, Bool.and_eq_true_iff.mpr ⟨big_ok (by omega) (by omega), big_ok (by omega) (by omega)⟩, ?_⟩) | (refine Q.truP ?_) | (refine Q.mbl ?_) | (refine Q.mtru ?_) | (refine Q.mnot ?_) | (refine Q.mor ?_) | (refine Q.mand ?_) | (refine ⟨by rfl, _, _, by rfl, ?_⟩) | (refine ⟨_, _, _, by rfl, by rfl, ?_⟩) | (refine ew_add ?_) | (refine ey_add ?_) | (refine ew_ii (by first | rfl | exact decide_eq_true (by omega) | exact cMul_l (by omega) (by omega) | exact cMul_r (by omega) (by omega)) ?_) | (refine ew_mul (by first | rfl | exact cMul_l (by omega) (by omega) | exact cMul_r (by omega) (by omega)) ?_) | (refine ey_ii (by first | rfl | exact decide_eq_true (by omega) | exact cMul_l (by omega) (by omega) | exact cMul_r (by omega) (by omega)) ?_) | (refine ey_mul (by first | rfl | exact cMul_l (by omega) (by omega) | exact cMul_r (by omega) (by omega)) ?_) | (refine ew_neg ?_) | (refine ey_neg ?_) | (refine ew_iB ?_) | (refine ey_iB ?_) | (refine ⟨_, by rfl, ?_⟩) | (refine ⟨(show List.length _ = _ from rfl), ?_⟩) | (simp only [wip, resto, List.getElem?_cons_zero, List.getElem?_cons_succ, Option.join_some, Option.join_none, Int.reduceToNat, seqK_nx, seqK_rt, turnK_nx, turnK_ct, maxI_eq, minI_eq, izs_len, fz_tup, fz_lst, fz_dic, fzs_eds, fzs_izs, fzs_nil, fzs_cons, takeArgs, refPos, refsOf, putBack, List.set_cons_zero, List.set_cons_succ, fz_int, fz_bl, fz_non]))); refine ⟨by rfl, by ((try simp only [rngD_len, List.length_map]); have := Nat.le_of_ble_eq_true (show Nat.ble 10000000 sizeLine = true from rfl); omega), fun _ => .lst true [], ?_, ?_⟩)
  · intro d hd
    (repeat (first | (refine Q.seq ?_) | (refine Q.asg ?_) | (refine Q.ret ?_) | (refine Q.drop ?_) | (refine Q.nxt ?_) | (refine Q.setB rfl ?_) | (refine Q.val (by rfl) (by first | rfl | (simp only [cln_tup, cln_lst, clns_cons, clns_nil, clns_izs, clns_eds, cln_edge, cln_int, Bool.and_self, Bool.not_false, Bool.and_true, Bool.true_and]; first | done | fail)) ?_) | (refine Q.valv (by rfl) ?_) | (refine Q.takeI (by rfl) ?_) | (refine Q.consA ?_) | (refine Q.consO ?_) | (refine Q.nilO ?_) | (refine Q.nilP ?_) | (refine Q.tupM ?_) | (refine Q.lstM ?_) | (refine Q.dicE ?_) | (refine Q.call ?_) | (refine Q.refA (by rfl) ?_) | (refine Q.subI (by rfl) ?_) | (refine Q.valA ?_) | (refine Q.nilA ?_) | (refine Q.op2 ?_) | (refine Q.un ?_) | (refine Q.callA ?_) | (refine Q.callS ?_) | (refine Q.forS ?_) | (refine Q.iter ?_) | (refine Q.rng1 ?_) | (refine Q.rng2 ?_) | (refine Q.gtup rfl ?_) | (refine Q.gcons ?_) | (refine Q.gnil ?_) | (refine Q.put0 (by rfl) ?_) | (refine retK_rt (by rfl) ?_) | (refine ⟨Nat.le_of_ble_eq_true rfl, ?_⟩) | (refine ⟨_, rfl, big_ok (by omega) (by omega), ?_⟩) | (refine ⟨_, _, rfl, Bool.and_eq_true_iff.mpr ⟨big_ok (by omega) (by omega), big_ok (by omega) (by omega)⟩, ?_⟩) | (refine Q.truP ?_) | (refine Q.mbl ?_) | (refine Q.mtru ?_) | (refine Q.mnot ?_) | (refine Q.mor ?_) | (refine Q.mand ?_) | (refine ⟨by rfl, _, _, by rfl, ?_⟩) | (refine ⟨_, _, _, by rfl, by rfl, ?_⟩) | (refine ew_add ?_) | (refine ey_add ?_) | (refine ew_ii (by first | rfl | exact decide_eq_true (by omega) | exact cMul_l (by omega) (by omega) | exact cMul_r (by omega) (by omega)) ?_) | (refine ew_mul (by first | rfl | exact cMul_l (by omega) (by omega) | exact cMul_r (by omega) (by omega)) ?_) | (refine ey_ii (by first | rfl | exact decide_eq_true (by omega) | exact cMul_l (by omega) (by omega) | exact cMul_r (by omega) (by omega)) ?_) | (refine ey_mul (by first | rfl | exact cMul_l (by omega) (by omega) | exact cMul_r (by omega) (by omega)) ?_) | (refine ew_neg ?_) | (refine ey_neg ?_) | (refine ew_iB ?_) | (refine ey_iB ?_) | (refine ⟨_, by rfl, ?_⟩) | (refine ⟨(show List.length _ = _ from rfl), ?_⟩) | (simp only [wip, resto, List.getElem?_cons_zero, List.getElem?_cons_succ, Option.join_some, Option.join_none, Int.reduceToNat, seqK_nx, seqK_rt, turnK_nx, turnK_ct, maxI_eq, minI_eq, izs_len, fz_tup, fz_lst, fz_dic, fzs_eds, fzs_izs, fzs_nil, fzs_cons, takeArgs, refPos, refsOf, putBack, List.set_cons_zero, List.set_cons_succ, fz_int, fz_bl, fz_non])))
    exact ⟨trivial, trivial⟩
  (repeat (first | (refine Q.seq ?_) | (refine Q.asg ?_) | (refine Q.ret ?_) | (refine Q.drop ?_) | (refine Q.nxt ?_) | (refine Q.setB rfl ?_) | (refine Q.val (by rfl) (by first | rfl | (simp only [cln_tup, cln_lst, clns_cons, clns_nil, clns_izs, clns_eds, cln_edge, cln_int, Bool.and_self, Bool.not_false, Bool.and_true, Bool.true_and]; first | done | fail)) ?_) | (refine Q.valv (by rfl) ?_) | (refine Q.takeI (by rfl) ?_) | (refine Q.consA ?_) | (refine Q.consO ?_) | (refine Q.nilO ?_) | (refine Q.nilP ?_) | (refine Q.tupM ?_) | (refine Q.lstM ?_) | (refine Q.dicE ?_) | (refine Q.call ?_) | (refine Q.refA (by rfl) ?_) | (refine Q.subI (by rfl) ?_) | (refine Q.valA ?_) | (refine Q.nilA ?_) | (refine Q.op2 ?_) | (refine Q.un ?_) | (refine Q.callA ?_) | (refine Q.callS ?_) | (refine Q.forS ?_) | (refine Q.iter ?_) | (refine Q.rng1 ?_) | (refine Q.rng2 ?_) | (refine Q.gtup rfl ?_) | (refine Q.gcons ?_) | (refine Q.gnil ?_) | (refine Q.put0 (by rfl) ?_) | (refine retK_rt (by rfl) ?_) | (refine ⟨Nat.le_of_ble_eq_true rfl, ?_⟩) | (refine ⟨_, rfl, big_ok (by omega) (by omega), ?_⟩) | (refine ⟨_, _, rfl, Bool.and_eq_true_iff.mpr ⟨big_ok (by omega) (by omega), big_ok (by omega) (by omega)⟩, ?_⟩) | (refine Q.truP ?_) | (refine Q.mbl ?_) | (refine Q.mtru ?_) | (refine Q.mnot ?_) | (refine Q.mor ?_) | (refine Q.mand ?_) | (refine ⟨by rfl, _, _, by rfl, ?_⟩) | (refine ⟨_, _, _, by rfl, by rfl, ?_⟩) | (refine ew_add ?_) | (refine ey_add ?_) | (refine ew_ii (by first | rfl | exact decide_eq_true (by omega) | exact cMul_l (by omega) (by omega) | exact cMul_r (by omega) (by omega)) ?_) | (refine ew_mul (by first | rfl | exact cMul_l (by omega) (by omega) | exact cMul_r (by omega) (by omega)) ?_) | (refine ey_ii (by first | rfl | exact decide_eq_true (by omega) | exact cMul_l (by omega) (by omega) | exact cMul_r (by omega) (by omega)) ?_) | (refine ey_mul (by first | rfl | exact cMul_l (by omega) (by omega) | exact cMul_r (by omega) (by omega)) ?_) | (refine ew_neg ?_) | (refine ey_neg ?_) | (refine ew_iB ?_) | (refine ey_iB ?_) | (refine ⟨_, by rfl, ?_⟩) | (refine ⟨(show List.length _ = _ from rfl), ?_⟩) | (simp only [wip, resto, List.getElem?_cons_zero, List.getElem?_cons_succ, Option.join_some, Option.join_none, Int.reduceToNat, seqK_nx, seqK_rt, turnK_nx, turnK_ct, maxI_eq, minI_eq, izs_len, fz_tup, fz_lst, fz_dic, fzs_eds, fzs_izs, fzs_nil, fzs_cons, takeArgs, refPos, refsOf, putBack, List.set_cons_zero, List.set_cons_succ, fz_int, fz_bl, fz_non])))
  refine Q.forL (fun i Γ => ∃ (L : List (List Int)) (x y : Option D), Γ = [some (webD n es), some (.lst true (lsts L)), x, y, none] ∧ L.length = n ∧ ∀ l ∈ L, l.length ≤ 2 * i ∧ ∀ z ∈ l, 0 ≤ z ∧ z < n) ?_ ?_ ?_
  · refine ⟨(List.range n.toNat).map fun _ => [], none, none, ?_, by simp only [List.length_map, List.length_range]; omega, ?_⟩
    · rw [rng_map (g := fun l => D.lst true (izs l)) (h := fun _ => []) fun _ _ => rfl]
    · intro l hl
      obtain ⟨_, _, rfl⟩ := List.mem_map.mp hl
      exact ⟨Nat.le_refl _, fun z m => nomatch m⟩
  · intro i d Γ hd hI
    obtain ⟨L, x, y, rfl, hL, hl2⟩ := hI
    rw [eds, List.getElem?_map] at hd
    obtain ⟨e, hd1, rfl⟩ := Option.map_eq_some_iff.mp hd
    have hi := (List.getElem?_eq_some_iff.mp hd1).1
    obtain ⟨e0, e1, e2⟩ := he e (List.mem_of_getElem? hd1)
    obtain ⟨l1, _, m1, _, g1, s1⟩ := lsts_at (L := L) e0 (by omega)
    (repeat (first | (refine Q.seq ?_) | (refine Q.asg ?_) | (refine Q.ret ?_) | (refine Q.drop ?_) | (refine Q.nxt ?_) | (refine Q.setB rfl ?_) | (refine Q.val (by rfl) (by first | rfl | (simp only [cln_tup, cln_lst, clns_cons, clns_nil, clns_izs, clns_eds, cln_edge, cln_int, Bool.and_self, Bool.not_false, Bool.and_true, Bool.true_and]; first | done | fail)) ?_) | (refine Q.valv (by rfl) ?_) | (refine Q.takeI (by rfl) ?_) | (refine Q.consA ?_) | (refine Q.consO ?_) | (refine Q.nilO ?_) | (refine Q.nilP ?_) | (refine Q.tupM ?_) | (refine Q.lstM ?_) | (refine Q.dicE ?_) | (refine Q.call ?_) | (refine Q.refA (by rfl) ?_) | (refine Q.subI (by rfl) ?_) | (refine Q.valA ?_) | (refine Q.nilA ?_) | (refine Q.op2 ?_) | (refine Q.un ?_) | (refine Q.callA ?_) | (refine Q.callS ?_) | (refine Q.forS ?_) | (refine Q.iter ?_) | (refine Q.rng1 ?_) | (refine Q.rng2 ?_) | (refine Q.gtup rfl ?_) | (refine Q.gcons ?_) | (refine Q.gnil ?_) | (refine Q.put0 (by rfl) ?_) | (refine retK_rt (by rfl) ?_) | (refine ⟨Nat.le_of_ble_eq_true rfl, ?_⟩) | (refine ⟨_, rfl, big_ok (by omega) (by omega), ?_⟩) | (refine ⟨_, _, rfl, Bool.and_eq_true_iff.mpr ⟨big_ok (by omega) (by omega), big_ok (by omega) (by omega)⟩, ?_⟩) | (refine Q.truP ?_) | (refine Q.mbl ?_) | (refine Q.mtru ?_) | (refine Q.mnot ?_) | (refine Q.mor ?_) | (refine Q.mand ?_) | (refine ⟨by rfl, _, _, by rfl, ?_⟩) | (refine ⟨_, _, _, by rfl, by rfl, ?_⟩) | (refine ew_add ?_) | (refine ey_add ?_) | (refine ew_ii (by first | rfl | exact decide_eq_true (by omega) | exact cMul_l (by omega) (by omega) | exact cMul_r (by omega) (by omega)) ?_) | (refine ew_mul (by first | rfl | exact cMul_l (by omega) (by omega) | exact cMul_r (by omega) (by omega)) ?_) | (refine ey_ii (by first | rfl | exact decide_eq_true (by omega) | exact cMul_l (by omega) (by omega) | exact cMul_r (by omega) (by omega)) ?_) | (refine ey_mul (by first | rfl | exact cMul_l (by omega) (by omega) | exact cMul_r (by omega) (by omega)) ?_) | (refine ew_neg ?_) | (refine ey_neg ?_) | (refine ew_iB ?_) | (refine ey_iB ?_) | (refine ⟨_, by rfl, ?_⟩) | (refine ⟨(show List.length _ = _ from rfl), ?_⟩) | (simp only [wip, resto, List.getElem?_cons_zero, List.getElem?_cons_succ, Option.join_some, Option.join_none, Int.reduceToNat, seqK_nx, seqK_rt, turnK_nx, turnK_ct, maxI_eq, minI_eq, izs_len, fz_tup, fz_lst, fz_dic, fzs_eds, fzs_izs, fzs_nil, fzs_cons, takeArgs, refPos, refsOf, putBack, List.set_cons_zero, List.set_cons_succ, fz_int, fz_bl, fz_non])))
    refine Q.meth (by rfl) (by rfl) g1 (by rfl) ?_
    (repeat (first | (refine Q.seq ?_) | (refine Q.asg ?_) | (refine Q.ret ?_) | (refine Q.drop ?_) | (refine Q.nxt ?_) | (refine Q.setB rfl ?_) | (refine Q.val (by rfl) (by first | rfl | (simp only [cln_tup, cln_lst, clns_cons, clns_nil, clns_izs, clns_eds, cln_edge, cln_int, Bool.and_self, Bool.not_false, Bool.and_true, Bool.true_and]; first | done | fail)) ?_) | (refine Q.valv (by rfl) ?_) | (refine Q.takeI (by rfl) ?_) | (refine Q.consA ?_) | (refine Q.consO ?_) | (refine Q.nilO ?_) | (refine Q.nilP ?_) | (refine Q.tupM ?_) | (refine Q.lstM ?_) | (refine Q.dicE ?_) | (refine Q.call ?_) | (refine Q.refA (by rfl) ?_) | (refine Q.subI (by rfl) ?_) | (refine Q.valA ?_) | (refine Q.nilA ?_) | (refine Q.op2 ?_) | (refine Q.un ?_) | (refine Q.callA ?_) | (refine Q.callS ?_) | (refine Q.forS ?_) | (refine Q.iter ?_) | (refine Q.rng1 ?_) | (refine Q.rng2 ?_) | (refine Q.gtup rfl ?_) | (refine Q.gcons ?_) | (refine Q.gnil ?_) | (refine Q.put0 (by rfl) ?_) | (refine retK_rt (by rfl) ?_) | (refine ⟨Nat.le_of_ble_eq_true rfl, ?_⟩) | (refine ⟨_, rfl, big_ok (by omega) (by omega), ?_⟩) | (refine ⟨_, _, rfl, Bool.and_eq_true_iff.mpr ⟨big_ok (by omega) (by omega), big_ok (by omega) (by omega)⟩, ?_⟩) | (refine Q.truP ?_) | (refine Q.mbl ?_) | (refine Q.mtru ?_) | (refine Q.mnot ?_) | (refine Q.mor ?_) | (refine Q.mand ?_) | (refine ⟨by rfl, _, _, by rfl, ?_⟩) | (refine ⟨_, _, _, by rfl, by rfl, ?_⟩) | (refine ew_add ?_) | (refine ey_add ?_) | (refine ew_ii (by first | rfl | exact decide_eq_true (by omega) | exact cMul_l (by omega) (by omega) | exact cMul_r (by omega) (by omega)) ?_) | (refine ew_mul (by first | rfl | exact cMul_l (by omega) (by omega) | exact cMul_r (by omega) (by omega)) ?_) | (refine ey_ii (by first | rfl | exact decide_eq_true (by omega) | exact cMul_l (by omega) (by omega) | exact cMul_r (by omega) (by omega)) ?_) | (refine ey_mul (by first | rfl | exact cMul_l (by omega) (by omega) | exact cMul_r (by omega) (by omega)) ?_) | (refine ew_neg ?_) | (refine ey_neg ?_) | (refine ew_iB ?_) | (refine ey_iB ?_) | (refine ⟨_, by rfl, ?_⟩) | (refine ⟨(show List.length _ = _ from rfl), ?_⟩) | (simp only [wip, resto, List.getElem?_cons_zero, List.getElem?_cons_succ, Option.join_some, Option.join_none, Int.reduceToNat, seqK_nx, seqK_rt, turnK_nx, turnK_ct, maxI_eq, minI_eq, izs_len, fz_tup, fz_lst, fz_dic, fzs_eds, fzs_izs, fzs_nil, fzs_cons, takeArgs, refPos, refsOf, putBack, List.set_cons_zero, List.set_cons_succ, fz_int, fz_bl, fz_non])))
    refine ⟨_, _, _, _, _, by rfl, g1, append_izs (size_ok (by have := (hl2 l1 m1).1; omega)), s1 _, ?_⟩
    (repeat (first | (refine Q.seq ?_) | (refine Q.asg ?_) | (refine Q.ret ?_) | (refine Q.drop ?_) | (refine Q.nxt ?_) | (refine Q.setB rfl ?_) | (refine Q.val (by rfl) (by first | rfl | (simp only [cln_tup, cln_lst, clns_cons, clns_nil, clns_izs, clns_eds, cln_edge, cln_int, Bool.and_self, Bool.not_false, Bool.and_true, Bool.true_and]; first | done | fail)) ?_) | (refine Q.valv (by rfl) ?_) | (refine Q.takeI (by rfl) ?_) | (refine Q.consA ?_) | (refine Q.consO ?_) | (refine Q.nilO ?_) | (refine Q.nilP ?_) | (refine Q.tupM ?_) | (refine Q.lstM ?_) | (refine Q.dicE ?_) | (refine Q.call ?_) | (refine Q.refA (by rfl) ?_) | (refine Q.subI (by rfl) ?_) | (refine Q.valA ?_) | (refine Q.nilA ?_) | (refine Q.op2 ?_) | (refine Q.un ?_) | (refine Q.callA ?_) | (refine Q.callS ?_) | (refine Q.forS ?_) | (refine Q.iter ?_) | (refine Q.rng1 ?_) | (refine Q.rng2 ?_) | (refine Q.gtup rfl ?_) | (refine Q.gcons ?_) | (refine Q.gnil ?_) | (refine Q.put0 (by rfl) ?_) | (refine retK_rt (by rfl) ?_) | (refine ⟨Nat.le_of_ble_eq_true rfl, ?_⟩) | (refine ⟨_, rfl, big_ok (by omega) (by omega), ?_⟩) | (refine ⟨_, _, rfl, Bool.and_eq_true_iff.mpr ⟨big_ok (by omega) (by omega), big_ok (by omega) (by omega)⟩, ?_⟩) | (refine Q.truP ?_) | (refine Q.mbl ?_) | (refine Q.mtru ?_) | (refine Q.mnot ?_) | (refine Q.mor ?_) | (refine Q.mand ?_) | (refine ⟨by rfl, _, _, by rfl, ?_⟩) | (refine ⟨_, _, _, by rfl, by rfl, ?_⟩) | (refine ew_add ?_) | (refine ey_add ?_) | (refine ew_ii (by first | rfl | exact decide_eq_true (by omega) | exact cMul_l (by omega) (by omega) | exact cMul_r (by omega) (by omega)) ?_) | (refine ew_mul (by first | rfl | exact cMul_l (by omega) (by omega) | exact cMul_r (by omega) (by omega)) ?_) | (refine ey_ii (by first | rfl | exact decide_eq_true (by omega) | exact cMul_l (by omega) (by omega) | exact cMul_r (by omega) (by omega)) ?_) | (refine ey_mul (by first | rfl | exact cMul_l (by omega) (by omega) | exact cMul_r (by omega) (by omega)) ?_) | (refine ew_neg ?_) | (refine ey_neg ?_) | (refine ew_iB ?_) | (refine ey_iB ?_) | (refine ⟨_, by rfl, ?_⟩) | (refine ⟨(show List.length _ = _ from rfl), ?_⟩) | (simp only [wip, resto, List.getElem?_cons_zero, List.getElem?_cons_succ, Option.join_some, Option.join_none, Int.reduceToNat, seqK_nx, seqK_rt, turnK_nx, turnK_ct, maxI_eq, minI_eq, izs_len, fz_tup, fz_lst, fz_dic, fzs_eds, fzs_izs, fzs_nil, fzs_cons, takeArgs, refPos, refsOf, putBack, List.set_cons_zero, List.set_cons_succ, fz_int, fz_bl, fz_non])))
    have hs1 : ∀ l ∈ L.set e.1.toNat (l1 ++ [e.2]), l.length ≤ 2 * i + 1 ∧ ∀ z ∈ l, 0 ≤ z ∧ z < n := fun l m => by
      rcases mem_set m with rfl | m
      · refine ⟨by rw [List.length_append]; have := (hl2 l1 m1).1; simp; omega, fun z m => ?_⟩
        rcases List.mem_append.mp m with m | m
        · exact (hl2 l1 m1).2 z m
        · rw [List.mem_singleton.mp m]; omega
      · exact ⟨by have := (hl2 l m).1; omega, (hl2 l m).2⟩
    obtain ⟨l2, _, m2, _, g2, s2⟩ := lsts_at (L := L.set e.1.toNat (l1 ++ [e.2])) (i := e.2) (by omega) (by rw [List.length_set]; omega)
    refine Q.meth (by rfl) (by rfl) g2 (by rfl) ?_
    (repeat (first | (refine Q.seq ?_) | (refine Q.asg ?_) | (refine Q.ret ?_) | (refine Q.drop ?_) | (refine Q.nxt ?_) | (refine Q.setB rfl ?_) | (refine Q.val (by rfl) (by first | rfl | (simp only [cln_tup, cln_lst, clns_cons, clns_nil, clns_izs, clns_eds, cln_edge, cln_int, Bool.and_self, Bool.not_false, Bool.and_true, Bool.true_and]; first | done | fail)) ?_) | (refine Q.valv (by rfl) ?_) | (refine Q.takeI (by rfl) ?_) | (refine Q.consA ?_) | (refine Q.consO ?_) | (refine Q.nilO ?_) | (refine Q.nilP ?_) | (refine Q.tupM ?_) | (refine Q.lstM ?_) | (refine Q.dicE ?_) | (refine Q.call ?_) | (refine Q.refA (by rfl) ?_) | (refine Q.subI (by rfl) ?_) | (refine Q.valA ?_) | (refine Q.nilA ?_) | (refine Q.op2 ?_) | (refine Q.un ?_) | (refine Q.callA ?_) | (refine Q.callS ?_) | (refine Q.forS ?_) | (refine Q.iter ?_) | (refine Q.rng1 ?_) | (refine Q.rng2 ?_) | (refine Q.gtup rfl ?_) | (refine Q.gcons ?_) | (refine Q.gnil ?_) | (refine Q.put0 (by rfl) ?_) | (refine retK_rt (by rfl) ?_) | (refine ⟨Nat.le_of_ble_eq_true rfl, ?_⟩) | (refine ⟨_, rfl, big_ok (by omega) (by omega), ?_⟩) | (refine ⟨_, _, rfl, Bool.and_eq_true_iff.mpr ⟨big_ok (by omega) (by omega), big_ok (by omega) (by omega)⟩, ?_⟩) | (refine Q.truP ?_) | (refine Q.mbl ?_) | (refine Q.mtru ?_) | (refine Q.mnot ?_) | (refine Q.mor ?_) | (refine Q.mand ?_) | (refine ⟨by rfl, _, _, by rfl, ?_⟩) | (refine ⟨_, _, _, by rfl, by rfl, ?_⟩) | (refine ew_add ?_) | (refine ey_add ?_) | (refine ew_ii (by first | rfl | exact decide_eq_true (by omega) | exact cMul_l (by omega) (by omega) | exact cMul_r (by omega) (by omega)) ?_) | (refine ew_mul (by first | rfl | exact cMul_l (by omega) (by omega) | exact cMul_r (by omega) (by omega)) ?_) | (refine ey_ii (by first | rfl | exact decide_eq_true (by omega) | exact cMul_l (by omega) (by omega) | exact cMul_r (by omega) (by omega)) ?_) | (refine ey_mul (by first | rfl | exact cMul_l (by omega) (by omega) | exact cMul_r (by omega) (by omega)) ?_) | (refine ew_neg ?_) | (refine ey_neg ?_) | (refine ew_iB ?_) | (refine ey_iB ?_) | (refine ⟨_, by rfl, ?_⟩) | (refine ⟨(show List.length _ = _ from rfl), ?_⟩) | (simp only [wip, resto, List.getElem?_cons_zero, List.getElem?_cons_succ, Option.join_some, Option.join_none, Int.reduceToNat, seqK_nx, seqK_rt, turnK_nx, turnK_ct, maxI_eq, minI_eq, izs_len, fz_tup, fz_lst, fz_dic, fzs_eds, fzs_izs, fzs_nil, fzs_cons, takeArgs, refPos, refsOf, putBack, List.set_cons_zero, List.set_cons_succ, fz_int, fz_bl, fz_non])))
    refine ⟨_, _, _, _, _, by rfl, g2, append_izs (size_ok (by have := (hs1 l2 m2).1; omega)), s2 _, ?_⟩
    (repeat (first | (refine Q.seq ?_) | (refine Q.asg ?_) | (refine Q.ret ?_) | (refine Q.drop ?_) | (refine Q.nxt ?_) | (refine Q.setB rfl ?_) | (refine Q.val (by rfl) (by first | rfl | (simp only [cln_tup, cln_lst, clns_cons, clns_nil, clns_izs, clns_eds, cln_edge, cln_int, Bool.and_self, Bool.not_false, Bool.and_true, Bool.true_and]; first | done | fail)) ?_) | (refine Q.valv (by rfl) ?_) | (refine Q.takeI (by rfl) ?_) | (refine Q.consA ?_) | (refine Q.consO ?_) | (refine Q.nilO ?_) | (refine Q.nilP ?_) | (refine Q.tupM ?_) | (refine Q.lstM ?_) | (refine Q.dicE ?_) | (refine Q.call ?_) | (refine Q.refA (by rfl) ?_) | (refine Q.subI (by rfl) ?_) | (refine Q.valA ?_) | (refine Q.nilA ?_) | (refine Q.op2 ?_) | (refine Q.un ?_) | (refine Q.callA ?_) | (refine Q.callS ?_) | (refine Q.forS ?_) | (refine Q.iter ?_) | (refine Q.rng1 ?_) | (refine Q.rng2 ?_) | (refine Q.gtup rfl ?_) | (refine Q.gcons ?_) | (refine Q.gnil ?_) | (refine Q.put0 (by rfl) ?_) | (refine retK_rt (by rfl) ?_) | (refine ⟨Nat.le_of_ble_eq_true rfl, ?_⟩) | (refine ⟨_, rfl, big_ok (by omega) (by omega), ?_⟩) | (refine ⟨_, _, rfl, Bool.and_eq_true_iff.mpr ⟨big_ok (by omega) (by omega), big_ok (by omega) (by omega)⟩, ?_⟩) | (refine Q.truP ?_) | (refine Q.mbl ?_) | (refine Q.mtru ?_) | (refine Q.mnot ?_) | (refine Q.mor ?_) | (refine Q.mand ?_) | (refine ⟨by rfl, _, _, by rfl, ?_⟩) | (refine ⟨_, _, _, by rfl, by rfl, ?_⟩) | (refine ew_add ?_) | (refine ey_add ?_) | (refine ew_ii (by first | rfl | exact decide_eq_true (by omega) | exact cMul_l (by omega) (by omega) | exact cMul_r (by omega) (by omega)) ?_) | (refine ew_mul (by first | rfl | exact cMul_l (by omega) (by omega) | exact cMul_r (by omega) (by omega)) ?_) | (refine ey_ii (by first | rfl | exact decide_eq_true (by omega) | exact cMul_l (by omega) (by omega) | exact cMul_r (by omega) (by omega)) ?_) | (refine ey_mul (by first | rfl | exact cMul_l (by omega) (by omega) | exact cMul_r (by omega) (by omega)) ?_) | (refine ew_neg ?_) | (refine ey_neg ?_) | (refine ew_iB ?_) | (refine ey_iB ?_) | (refine ⟨_, by rfl, ?_⟩) | (refine ⟨(show List.length _ = _ from rfl), ?_⟩) | (simp only [wip, resto, List.getElem?_cons_zero, List.getElem?_cons_succ, Option.join_some, Option.join_none, Int.reduceToNat, seqK_nx, seqK_rt, turnK_nx, turnK_ct, maxI_eq, minI_eq, izs_len, fz_tup, fz_lst, fz_dic, fzs_eds, fzs_izs, fzs_nil, fzs_cons, takeArgs, refPos, refsOf, putBack, List.set_cons_zero, List.set_cons_succ, fz_int, fz_bl, fz_non])))
    refine ⟨_, _, _, rfl, by rw [List.length_set, List.length_set]; exact hL, fun l m => ?_⟩
    rcases mem_set m with rfl | m
    · refine ⟨by rw [List.length_append]; have := (hs1 l2 m2).1; simp; omega, fun z m => ?_⟩
      rcases List.mem_append.mp m with m | m
      · exact (hs1 l2 m2).2 z m
      · rw [List.mem_singleton.mp m]; omega
    · exact ⟨by have := (hs1 l m).1; omega, (hs1 l m).2⟩
  · rintro Γ ⟨L, x, y, rfl, hL, hl2⟩
    (repeat (first | (refine Q.seq ?_) | (refine Q.asg ?_) | (refine Q.ret ?_) | (refine Q.drop ?_) | (refine Q.nxt ?_) | (refine Q.setB rfl ?_) | (refine Q.val (by rfl) (by first | rfl | (simp only [cln_tup, cln_lst, clns_cons, clns_nil, clns_izs, clns_eds, cln_edge, cln_int, Bool.and_self, Bool.not_false, Bool.and_true, Bool.true_and]; first | done | fail)) ?_) | (refine Q.valv (by rfl) ?_) | (refine Q.takeI (by rfl) ?_) | (refine Q.consA ?_) | (refine Q.consO ?_) | (refine Q.nilO ?_) | (refine Q.nilP ?_) | (refine Q.tupM ?_) | (refine Q.lstM ?_) | (refine Q.dicE ?_) | (refine Q.call ?_) | (refine Q.refA (by rfl) ?_) | (refine Q.subI (by rfl) ?_) | (refine Q.valA ?_) | (refine Q.nilA ?_) | (refine Q.op2 ?_) | (refine Q.un ?_) | (refine Q.callA ?_) | (refine Q.callS ?_) | (refine Q.forS ?_) | (refine Q.iter ?_) | (refine Q.rng1 ?_) | (refine Q.rng2 ?_) | (refine Q.gtup rfl ?_) | (refine Q.gcons ?_) | (refine Q.gnil ?_) | (refine Q.put0 (by rfl) ?_) | (refine retK_rt (by rfl) ?_) | (refine ⟨Nat.le_of_ble_eq_true rfl, ?_⟩) | (refine ⟨_, rfl, big_ok (by omega) (by omega), ?_⟩) | (refine ⟨_, _, rfl, Bool.and_eq_true_iff.mpr ⟨big_ok (by omega) (by omega), big_ok (by omega) (by omega)⟩, ?_⟩) | (refine Q.truP ?_) | (refine Q.mbl ?_) | (refine Q.mtru ?_) | (refine Q.mnot ?_) | (refine Q.mor ?_) | (refine Q.mand ?_) | (refine ⟨by rfl, _, _, by rfl, ?_⟩) | (refine ⟨_, _, _, by rfl, by rfl, ?_⟩) | (refine ew_add ?_) | (refine ey_add ?_) | (refine ew_ii (by first | rfl | exact decide_eq_true (by omega) | exact cMul_l (by omega) (by omega) | exact cMul_r (by omega) (by omega)) ?_) | (refine ew_mul (by first | rfl | exact cMul_l (by omega) (by omega) | exact cMul_r (by omega) (by omega)) ?_) | (refine ey_ii (by first | rfl | exact decide_eq_true (by omega) | exact cMul_l (by omega) (by omega) | exact cMul_r (by omega) (by omega)) ?_) | (refine ey_mul (by first | rfl | exact cMul_l (by omega) (by omega) | exact cMul_r (by omega) (by omega)) ?_) | (refine ew_neg ?_) | (refine ey_neg ?_) | (refine ew_iB ?_) | (refine ey_iB ?_) | (refine ⟨_, by rfl, ?_⟩) | (refine ⟨(show List.length _ = _ from rfl), ?_⟩) | (simp only [wip, resto, List.getElem?_cons_zero, List.getElem?_cons_succ, Option.join_some, Option.join_none, Int.reduceToNat, seqK_nx, seqK_rt, turnK_nx, turnK_ct, maxI_eq, minI_eq, izs_len, fz_tup, fz_lst, fz_dic, fzs_eds, fzs_izs, fzs_nil, fzs_cons, takeArgs, refPos, refsOf, putBack, List.set_cons_zero, List.set_cons_succ, fz_int, fz_bl, fz_non])))
    exact ⟨trivial, L, rfl, hL, fun l m => ⟨by have := (hl2 l m).1; simpa using this, (hl2 l m).2⟩⟩
end K59

namespace K59
open PySem L2 PX
theorem any_web_ok {k : Nat} {p : D} (h : Pen k p) (hk : k ≤ 100000) {m : Int} (h0 : 1 ≤ m) (h1 : m ≤ 1000) : Ret (law_any_webF [p, .int m]) fun r os => ∃ n es p', r = webD n es ∧ 1 ≤ n ∧ n ≤ m ∧ (∀ e ∈ es, 0 ≤ e.1 ∧ e.1 < e.2 ∧ e.2 < n) ∧ es.length ≤ 4000 ∧ os = [p'] ∧ Pen (k + 10000) p' := by
  refine Q.start (by (simp only [entry, List.map_cons, List.map_nil, List.length_cons, List.length_nil, List.replicate, List.cons_append, List.nil_append, Nat.reduceAdd, Nat.reduceSub]) <;> rfl) ?_
  unfold law_any_webB
  (repeat (first | (refine Q.seq ?_) | (refine Q.asg ?_) | (refine Q.ret ?_) | (refine Q.drop ?_) | (refine Q.nxt ?_) | (refine Q.setB rfl ?_) | (refine Q.val (by rfl) (by first | rfl | (simp only [cln_tup, cln_lst, clns_cons, clns_nil, clns_izs, clns_eds, cln_edge, cln_int, Bool.and_self, Bool.not_false, Bool.and_true, Bool.true_and]; first | done | fail)) ?_) | (refine Q.valv (by rfl) ?_) | (refine Q.takeI (by rfl) ?_) | (refine Q.consA ?_) | (refine Q.consO ?_) | (refine Q.nilO ?_) | (refine Q.nilP ?_) | (refine Q.tupM ?_) | (refine Q.lstM ?_) | (refine Q.dicE ?_) | (refine Q.call ?_) | (refine Q.refA (by rfl) ?_) | (refine Q.subI (by rfl) ?_) | (refine Q.valA ?_) | (refine Q.nilA ?_) | (refine Q.op2 ?_) | (refine Q.un ?_) | (refine Q.callA ?_) | (refine Q.callS ?_) | (refine Q.forS ?_) | (refine Q.iter ?_) | (refine Q.rng1 ?_) | (refine Q.rng2 ?_) | (refine Q.gtup rfl ?_) | (refine Q.gcons ?_) | (refine Q.gnil ?_) | (refine Q.put0 (by rfl) ?_) | (refine retK_rt (by rfl) ?_) | (refine ⟨Nat.le_of_ble_eq_true rfl, ?_⟩) | (refine ⟨_, rfl, big_ok (by omega) (by omega), ?_⟩) | (refine ⟨_, _, rfl, Bool.and_eq_true_iff.mpr ⟨big_ok (by omega) (by omega), big_ok (by omega) (by omega)⟩, ?_⟩) | (refine Q.truP ?_) | (refine Q.mbl ?_) | (refine Q.mtru ?_) | (refine Q.mnot ?_) | (refine Q.mor ?_) | (refine Q.mand ?_) | (refine ⟨by rfl, _, _, by rfl, ?_⟩) | (refine ⟨_, _, _, by rfl, by rfl, ?_⟩) | (refine ew_add ?_) | (refine ey_add ?_) | (refine ew_ii (by first | rfl | exact decide_eq_true (by omega) | exact cMul_l (by omega) (by omega) | exact cMul_r (by omega) (by omega)) ?_) | (refine ew_mul (by first | rfl | exact cMul_l (by omega) (by omega) | exact cMul_r (by omega) (by omega)) ?_) | (refine ey_ii (by first | rfl | exact decide_eq_true (by omega) | exact cMul_l (by omega) (by omega) | exact cMul_r (by omega) (by omega)) ?_) | (refine ey_mul (by first | rfl | exact cMul_l (by omega) (by omega) | exact cMul_r (by omega) (by omega)) ?_) | (refine ew_neg ?_) | (refine ey_neg ?_) | (refine ew_iB ?_) | (refine ey_iB ?_) | (refine ⟨_, by rfl, ?_⟩) | (refine ⟨(show List.length _ = _ from rfl), ?_⟩) | (simp only [wip, resto, List.getElem?_cons_zero, List.getElem?_cons_succ, Option.join_some, Option.join_none, Int.reduceToNat, seqK_nx, seqK_rt, turnK_nx, turnK_ct, maxI_eq, minI_eq, izs_len, fz_tup, fz_lst, fz_dic, fzs_eds, fzs_izs, fzs_nil, fzs_cons, takeArgs, refPos, refsOf, putBack, List.set_cons_zero, List.set_cons_succ, fz_int, fz_bl, fz_non])))
  (refine (draw_ok (by assumption) (by omega) (by omega) (by omega)).imp ?_; rintro _ _ ⟨c, hd, rfl, c0, c1, rfl, h⟩)
  (repeat (first | (refine Q.seq ?_) | (refine Q.asg ?_) | (refine Q.ret ?_) | (refine Q.drop ?_) | (refine Q.nxt ?_) | (refine Q.setB rfl ?_) | (refine Q.val (by rfl) (by first | rfl | (simp only [cln_tup, cln_lst, clns_cons, clns_nil, clns_izs, clns_eds, cln_edge, cln_int, Bool.and_self, Bool.not_false, Bool.and_true, Bool.true_and]; first | done | fail)) ?_) | (refine Q.valv (by rfl) ?_) | (refine Q.takeI (by rfl) ?_) | (refine Q.consA ?_) | (refine Q.consO ?_) | (refine Q.nilO ?_) | (refine Q.nilP ?_) | (refine Q.tupM ?_) | (refine Q.lstM ?_) | (refine Q.dicE ?_) | (refine Q.call ?_) | (refine Q.refA (by rfl) ?_) | (refine Q.subI (by rfl) ?_) | (refine Q.valA ?_) | (refine Q.nilA ?_) | (refine Q.op2 ?_) | (refine Q.un ?_) | (refine Q.callA ?_) | (refine Q.callS ?_) | (refine Q.forS ?_) | (refine Q.iter ?_) | (refine Q.rng1 ?_) | (refine Q.rng2 ?_) | (refine Q.gtup rfl ?_) | (refine Q.gcons ?_) | (refine Q.gnil ?_) | (refine Q.put0 (by rfl) ?_) | (refine retK_rt (by rfl) ?_) | (refine ⟨Nat.le_of_ble_eq_true rfl, ?_⟩) | (refine ⟨_, rfl, big_ok (by omega) (by omega), ?_⟩) | (refine ⟨_, _, rfl, Bool.and_eq_true_iff.mpr ⟨big_ok (by omega) (by omega), big_ok (by omega) (by omega)⟩, ?_⟩) | (refine Q.truP ?_) | (refine Q.mbl ?_) | (refine Q.mtru ?_) | (refine Q.mnot ?_) | (refine Q.mor ?_) | (refine Q.mand ?_) | (refine ⟨by rfl, _, _, by rfl, ?_⟩) | (refine ⟨_, _, _, by rfl, by rfl, ?_⟩) | (refine ew_add ?_) | (refine ey_add ?_) | (refine ew_ii (by first | rfl | exact decide_eq_true (by omega) | exact cMul_l (by omega) (by omega) | exact cMul_r (by omega) (by omega)) ?_) | (refine ew_mul (by first | rfl | exact cMul_l (by omega) (by omega) | exact cMul_r (by omega) (by omega)) ?_) | (refine ey_ii (by first | rfl | exact decide_eq_true (by omega) | exact cMul_l (by omega) (by omega) | exact cMul_r (by omega) (by omega)) ?_) | (refine ey_mul (by first | rfl | exact cMul_l (by omega) (by omega) | exact cMul_r (by omega) (by omega)) ?_) | (refine ew_neg ?_) | (refine ey_neg ?_) | (refine ew_iB ?_) | (refine ey_iB ?_) | (refine ⟨_, by rfl, ?_⟩) | (refine ⟨(show List.length _ = _ from rfl), ?_⟩) | (simp only [wip, resto, List.getElem?_cons_zero, List.getElem?_cons_succ, Option.join_some, Option.join_none, Int.reduceToNat, seqK_nx, seqK_rt, turnK_nx, turnK_ct, maxI_eq, minI_eq, izs_len, fz_tup, fz_lst, fz_dic, fzs_eds, fzs_izs, fzs_nil, fzs_cons, takeArgs, refPos, refsOf, putBack, List.set_cons_zero, List.set_cons_succ, fz_int, fz_bl, fz_non])))
  (refine (draw_ok (by assumption) (by omega) (by omega) (by omega)).imp ?_; rintro _ _ ⟨t1, hd, rfl, t10, t11, rfl, h⟩)
  (repeat (first | (refine Q.seq ?_) | (refine Q.asg ?_) | (refine Q.ret ?_) | (refine Q.drop ?_) | (refine Q.nxt ?_) | (refine Q.setB rfl ?_) | (refine Q.val (by rfl) (by first | rfl | (simp only [cln_tup, cln_lst, clns_cons, clns_nil, clns_izs, clns_eds, cln_edge, cln_int, Bool.and_self, Bool.not_false, Bool.and_true, Bool.true_and]; first | done | fail)) ?_) | (refine Q.valv (by rfl) ?_) | (refine Q.takeI (by rfl) ?_) | (refine Q.consA ?_) | (refine Q.consO ?_) | (refine Q.nilO ?_) | (refine Q.nilP ?_) | (refine Q.tupM ?_) | (refine Q.lstM ?_) | (refine Q.dicE ?_) | (refine Q.call ?_) | (refine Q.refA (by rfl) ?_) | (refine Q.subI (by rfl) ?_) | (refine Q.valA ?_) | (refine Q.nilA ?_) | (refine Q.op2 ?_) | (refine Q.un ?_) | (refine Q.callA ?_) | (refine Q.callS ?_) | (refine Q.forS ?_) | (refine Q.iter ?_) | (refine Q.rng1 ?_) | (refine Q.rng2 ?_) | (refine Q.gtup rfl ?_) | (refine Q.gcons ?_) | (refine Q.gnil ?_) | (refine Q.put0 (by rfl) ?_) | (refine retK_rt (by rfl) ?_) | (refine ⟨Nat.le_of_ble_eq_true rfl, ?_⟩) | (refine ⟨_, rfl, big_ok (by omega) (by omega), ?_⟩) | (refine ⟨_, _, rfl, Bool.and_eq_true_iff.mpr ⟨big_ok (by omega) (by omega), big_ok (by omega) (by omega)⟩, ?_⟩) | (refine Q.truP ?_) | (refine Q.mbl ?_) | (refine Q.mtru ?_) | (refine Q.mnot ?_) | (refine Q.mor ?_) | (refine Q.mand ?_) | (refine ⟨by rfl, _, _, by rfl, ?_⟩) | (refine ⟨_, _, _, by rfl, by rfl, ?_⟩) | (refine ew_add ?_) | (refine ey_add ?_) | (refine ew_ii (by first | rfl | exact decide_eq_true (by omega) | exact cMul_l (by omega) (by omega) | exact cMul_r (by omega) (by omega)) ?_) | (refine ew_mul (by first | rfl | exact cMul_l (by omega) (by omega) | exact cMul_r (by omega) (by omega)) ?_) | (refine ey_ii (by first | rfl | exact decide_eq_true (by omega) | exact cMul_l (by omega) (by omega) | exact cMul_r (by omega) (by omega)) ?_) | (refine ey_mul (by first | rfl | exact cMul_l (by omega) (by omega) | exact cMul_r (by omega) (by omega)) ?_) | (refine ew_neg ?_) | (refine ey_neg ?_) | (refine ew_iB ?_) | (refine ey_iB ?_) | (refine ⟨_, by rfl, ?_⟩) | (refine ⟨(show List.length _ = _ from rfl), ?_⟩) | (simp only [wip, resto, List.getElem?_cons_zero, List.getElem?_cons_succ, Option.join_some, Option.join_none, Int.reduceToNat, seqK_nx, seqK_rt, turnK_nx, turnK_ct, maxI_eq, minI_eq, izs_len, fz_tup, fz_lst, fz_dic, fzs_eds, fzs_izs, fzs_nil, fzs_cons, takeArgs, refPos, refsOf, putBack, List.set_cons_zero, List.set_cons_succ, fz_int, fz_bl, fz_non])))
  (refine (draw_ok (by assumption) (by omega) (by omega) (by omega)).imp ?_; rintro _ _ ⟨t2, hd, rfl, t20, t21, rfl, h⟩)
  (repeat (first | (refine Q.seq ?_) | (refine Q.asg ?_) | (refine Q.ret ?_) | (refine Q.drop ?_) | (refine Q.nxt ?_) | (refine Q.setB rfl ?_) | (refine Q.val (by rfl) (by first | rfl | (simp only [cln_tup, cln_lst, clns_cons, clns_nil, clns_izs, clns_eds, cln_edge, cln_int, Bool.and_self, Bool.not_false, Bool.and_true, Bool.true_and]; first | done | fail)) ?_) | (refine Q.valv (by rfl) ?_) | (refine Q.takeI (by rfl) ?_) | (refine Q.consA ?_) | (refine Q.consO ?_) | (refine Q.nilO ?_) | (refine Q.nilP ?_) | (refine Q.tupM ?_) | (refine Q.lstM ?_) | (refine Q.dicE ?_) | (refine Q.call ?_) | (refine Q.refA (by rfl) ?_) | (refine Q.subI (by rfl) ?_) | (refine Q.valA ?_) | (refine Q.nilA ?_) | (refine Q.op2 ?_) | (refine Q.un ?_) | (refine Q.callA ?_) | (refine Q.callS ?_) | (refine Q.forS ?_) | (refine Q.iter ?_) | (refine Q.rng1 ?_) | (refine Q.rng2 ?_) | (refine Q.gtup rfl ?_) | (refine Q.gcons ?_) | (refine Q.gnil ?_) | (refine Q.put0 (by rfl) ?_) | (refine retK_rt (by rfl) ?_) | (refine ⟨Nat.le_of_ble_eq_true rfl, ?_⟩) | (refine ⟨_, rfl, big_ok (by omega) (by omega), ?_⟩) | (refine ⟨_, _, rfl, Bool.and_eq_true_iff.mpr ⟨big_ok (by omega) (by omega), big_ok (by omega) (by omega)⟩, ?_⟩) | (refine Q.truP ?_) | (refine Q.mbl ?_) | (refine Q.mtru ?_) | (refine Q.mnot ?_) | (refine Q.mor ?_) | (refine Q.mand ?_) | (refine ⟨by rfl, _, _, by rfl, ?_⟩) | (refine ⟨_, _, _, by rfl, by rfl, ?_⟩) | (refine ew_add ?_) | (refine ey_add ?_) | (refine ew_ii (by first | rfl | exact decide_eq_true (by omega) | exact cMul_l (by omega) (by omega) | exact cMul_r (by omega) (by omega)) ?_) | (refine ew_mul (by first | rfl | exact cMul_l (by omega) (by omega) | exact cMul_r (by omega) (by omega)) ?_) | (refine ey_ii (by first | rfl | exact decide_eq_true (by omega) | exact cMul_l (by omega) (by omega) | exact cMul_r (by omega) (by omega)) ?_) | (refine ey_mul (by first | rfl | exact cMul_l (by omega) (by omega) | exact cMul_r (by omega) (by omega)) ?_) | (refine ew_neg ?_) | (refine ey_neg ?_) | (refine ew_iB ?_) | (refine ey_iB ?_) | (refine ⟨_, by rfl, ?_⟩) | (refine ⟨(show List.length _ = _ from rfl), ?_⟩) | (simp only [wip, resto, List.getElem?_cons_zero, List.getElem?_cons_succ, Option.join_some, Option.join_none, Int.reduceToNat, seqK_nx, seqK_rt, turnK_nx, turnK_ct, maxI_eq, minI_eq, izs_len, fz_tup, fz_lst, fz_dic, fzs_eds, fzs_izs, fzs_nil, fzs_cons, takeArgs, refPos, refsOf, putBack, List.set_cons_zero, List.set_cons_succ, fz_int, fz_bl, fz_non])))
  (refine (draw_ok (by assumption) (by omega) (by omega) (by omega)).imp ?_; rintro _ _ ⟨t3, hd, rfl, t30, t31, rfl, h⟩)
  (repeat (first | (refine Q.seq ?_) | (refine Q.asg ?_) | (refine Q.ret ?_) | (refine Q.drop ?_) | (refine Q.nxt ?_) | (refine Q.setB rfl ?_) | (refine Q.val (by rfl) (by first | rfl | (simp only [cln_tup, cln_lst, clns_cons, clns_nil, clns_izs, clns_eds, cln_edge, cln_int, Bool.and_self, Bool.not_false, Bool.and_true, Bool.true_and]; first | done | fail)) ?_) | (refine Q.valv (by rfl) ?_) | (refine Q.takeI (by rfl) ?_) | (refine Q.consA ?_) | (refine Q.consO ?_) | (refine Q.nilO ?_) | (refine Q.nilP ?_) | (refine Q.tupM ?_) | (refine Q.lstM ?_) | (refine Q.dicE ?_) | (refine Q.call ?_) | (refine Q.refA (by rfl) ?_) | (refine Q.subI (by rfl) ?_) | (refine Q.valA ?_) | (refine Q.nilA ?_) | (refine Q.op2 ?_) | (refine Q.un ?_) | (refine Q.callA ?_) | (refine Q.callS ?_) | (refine Q.forS ?_) | (refine Q.iter ?_) | (refine Q.rng1 ?_) | (refine Q.rng2 ?_) | (refine Q.gtup rfl ?_) | (refine Q.gcons ?_) | (refine Q.gnil ?_) | (refine Q.put0 (by rfl) ?_) | (refine retK_rt (by rfl) ?_) | (refine ⟨Nat.le_of_ble_eq_true rfl, ?_⟩) | (refine ⟨_, rfl, big_ok (by omega) (by omega), ?_⟩) | (refine ⟨_, _, rfl, Bool.and_eq_true_iff.mpr ⟨big_ok (by omega) (by omega), big_ok (by omega) (by omega)⟩, ?_⟩) | (refine Q.truP ?_) | (refine Q.mbl ?_) | (refine Q.mtru ?_) | (refine Q.mnot ?_) | (refine Q.mor ?_) | (refine Q.mand ?_) | (refine ⟨by rfl, _, _, by rfl, ?_⟩) | (refine ⟨_, _, _, by rfl, by rfl, ?_⟩) | (refine ew_add ?_) | (refine ey_add ?_) | (refine ew_ii (by first | rfl | exact decide_eq_true (by omega) | exact cMul_l (by omega) (by omega) | exact cMul_r (by omega) (by omega)) ?_) | (refine ew_mul (by first | rfl | exact cMul_l (by omega) (by omega) | exact cMul_r (by omega) (by omega)) ?_) | (refine ey_ii (by first | rfl | exact decide_eq_true (by omega) | exact cMul_l (by omega) (by omega) | exact cMul_r (by omega) (by omega)) ?_) | (refine ey_mul (by first | rfl | exact cMul_l (by omega) (by omega) | exact cMul_r (by omega) (by omega)) ?_) | (refine ew_neg ?_) | (refine ey_neg ?_) | (refine ew_iB ?_) | (refine ey_iB ?_) | (refine ⟨_, by rfl, ?_⟩) | (refine ⟨(show List.length _ = _ from rfl), ?_⟩) | (simp only [wip, resto, List.getElem?_cons_zero, List.getElem?_cons_succ, Option.join_some, Option.join_none, Int.reduceToNat, seqK_nx, seqK_rt, turnK_nx, turnK_ct, maxI_eq, minI_eq, izs_len, fz_tup, fz_lst, fz_dic, fzs_eds, fzs_izs, fzs_nil, fzs_cons, takeArgs, refPos, refsOf, putBack, List.set_cons_zero, List.set_cons_succ, fz_int, fz_bl, fz_non])))
  (refine (draw_ok (by assumption) (by omega) (by omega) (by omega)).imp ?_; rintro _ _ ⟨w, hd, rfl, w0, w1, rfl, h⟩)
  (repeat (first | (refine Q.seq ?_) | (refine Q.asg ?_) | (refine Q.ret ?_) | (refine Q.drop ?_) | (refine Q.nxt ?_) | (refine Q.setB rfl ?_) | (refine Q.val (by rfl) (by first | rfl | (simp only [cln_tup, cln_lst, clns_cons, clns_nil, clns_izs, clns_eds, cln_edge, cln_int, Bool.and_self, Bool.not_false, Bool.and_true, Bool.true_and]; first | done | fail)) ?_) | (refine Q.valv (by rfl) ?_) | (refine Q.takeI (by rfl) ?_) | (refine Q.consA ?_) | (refine Q.consO ?_) | (refine Q.nilO ?_) | (refine Q.nilP ?_) | (refine Q.tupM ?_) | (refine Q.lstM ?_) | (refine Q.dicE ?_) | (refine Q.call ?_) | (refine Q.refA (by rfl) ?_) | (refine Q.subI (by rfl) ?_) | (refine Q.valA ?_) | (refine Q.nilA ?_) | (refine Q.op2 ?_) | (refine Q.un ?_) | (refine Q.callA ?_) | (refine Q.callS ?_) | (refine Q.forS ?_) | (refine Q.iter ?_) | (refine Q.rng1 ?_) | (refine Q.rng2 ?_) | (refine Q.gtup rfl ?_) | (refine Q.gcons ?_) | (refine Q.gnil ?_) | (refine Q.put0 (by rfl) ?_) | (refine retK_rt (by rfl) ?_) | (refine ⟨Nat.le_of_ble_eq_true rfl, ?_⟩) | (refine ⟨_, rfl, big_ok (by omega) (by omega), ?_⟩) | (refine ⟨_, _, rfl, Bool.and_eq_true_iff.mpr ⟨big_ok (by omega) (by omega), big_ok (by omega) (by omega)⟩, ?_⟩) | (refine Q.truP ?_) | (refine Q.mbl ?_) | (refine Q.mtru ?_) | (refine Q.mnot ?_) | (refine Q.mor ?_) | (refine Q.mand ?_) | (refine ⟨by rfl, _, _, by rfl, ?_⟩) | (refine ⟨_, _, _, by rfl, by rfl, ?_⟩) | (refine ew_add ?_) | (refine ey_add ?_) | (refine ew_ii (by first | rfl | exact decide_eq_true (by omega) | exact cMul_l (by omega) (by omega) | exact cMul_r (by omega) (by omega)) ?_) | (refine ew_mul (by first | rfl | exact cMul_l (by omega) (by omega) | exact cMul_r (by omega) (by omega)) ?_) | (refine ey_ii (by first | rfl | exact decide_eq_true (by omega) | exact cMul_l (by omega) (by omega) | exact cMul_r (by omega) (by omega)) ?_) | (refine ey_mul (by first | rfl | exact cMul_l (by omega) (by omega) | exact cMul_r (by omega) (by omega)) ?_) | (refine ew_neg ?_) | (refine ey_neg ?_) | (refine ew_iB ?_) | (refine ey_iB ?_) | (refine ⟨_, by rfl, ?_⟩) | (refine ⟨(show List.length _ = _ from rfl), ?_⟩) | (simp only [wip, resto, List.getElem?_cons_zero, List.getElem?_cons_succ, Option.join_some, Option.join_none, Int.reduceToNat, seqK_nx, seqK_rt, turnK_nx, turnK_ct, maxI_eq, minI_eq, izs_len, fz_tup, fz_lst, fz_dic, fzs_eds, fzs_izs, fzs_nil, fzs_cons, takeArgs, refPos, refsOf, putBack, List.set_cons_zero, List.set_cons_succ, fz_int, fz_bl, fz_non])))
  obtain ⟨x, _, hx, e⟩ := gsub_izs (o := false) (xs := [t1, t2, t3]) w0 (by simpa using w1)
  have hx0 : 0 ≤ x ∧ x ≤ 3000 := by
    simp only [List.mem_cons, List.not_mem_nil, or_false] at hx
    omega
  refine ⟨_, e, ?_⟩
  (repeat (first | (refine Q.seq ?_) | (refine Q.asg ?_) | (refine Q.ret ?_) | (refine Q.drop ?_) | (refine Q.nxt ?_) | (refine Q.setB rfl ?_) | (refine Q.val (by rfl) (by first | rfl | (simp only [cln_tup, cln_lst, clns_cons, clns_nil, clns_izs, clns_eds, cln_edge, cln_int, Bool.and_self, Bool.not_false, Bool.and_true, Bool.true_and]; first | done | fail)) ?_) | (refine Q.valv (by rfl) ?_) | (refine Q.takeI (by rfl) ?_) | (refine Q.consA ?_) | (refine Q.consO ?_) | (refine Q.nilO ?_) | (refine Q.nilP ?_) | (refine Q.tupM ?_) | (refine Q.lstM ?_) | (refine Q.dicE ?_) | (refine Q.call ?_) | (refine Q.refA (by rfl) ?_) | (refine Q.subI (by rfl) ?_) | (refine Q.valA ?_) | (refine Q.nilA ?_) | (refine Q.op2 ?_) | (refine Q.un ?_) | (refine Q.callA ?_) | (refine Q.callS ?_) | (refine Q.forS ?_) | (refine Q.iter ?_) | (refine Q.rng1 ?_) | (refine Q.rng2 ?_) | (refine Q.gtup rfl ?_) | (refine Q.gcons ?_) | (refine Q.gnil ?_) | (refine Q.put0 (by rfl) ?_) | (refine retK_rt (by rfl) ?_) | (refine ⟨Nat.le_of_ble_eq_true rfl, ?_⟩) | (refine ⟨_, rfl, big_ok (by omega) (by omega), ?_⟩) | (refine ⟨_, _, rfl, Bool.and_eq_true_iff.mpr ⟨big_ok (by omega) (by omega), big_ok (by omega) (by omega)⟩, ?_⟩) | (refine Q.truP ?_) | (refine Q.mbl ?_) | (refine Q.mtru ?_) | (refine Q.mnot ?_) | (refine Q.mor ?_) | (refine Q.mand ?_) | (refine ⟨by rfl, _, _, by rfl, ?_⟩) | (refine ⟨_, _, _, by rfl, by rfl, ?_⟩) | (refine ew_add ?_) | (refine ey_add ?_) | (refine ew_ii (by first | rfl | exact decide_eq_true (by omega) | exact cMul_l (by omega) (by omega) | exact cMul_r (by omega) (by omega)) ?_) | (refine ew_mul (by first | rfl | exact cMul_l (by omega) (by omega) | exact cMul_r (by omega) (by omega)) ?_) | (refine ey_ii (by first | rfl | exact decide_eq_true (by omega) | exact cMul_l (by omega) (by omega) | exact cMul_r (by omega) (by omega)) ?_) | (refine ey_mul (by first | rfl | exact cMul_l (by omega) (by omega) | exact cMul_r (by omega) (by omega)) ?_) | (refine ew_neg ?_) | (refine ey_neg ?_) | (refine ew_iB ?_) | (refine ey_iB ?_) | (refine ⟨_, by rfl, ?_⟩) | (refine ⟨(show List.length _ = _ from rfl), ?_⟩) | (simp only [wip, resto, List.getElem?_cons_zero, List.getElem?_cons_succ, Option.join_some, Option.join_none, Int.reduceToNat, seqK_nx, seqK_rt, turnK_nx, turnK_ct, maxI_eq, minI_eq, izs_len, fz_tup, fz_lst, fz_dic, fzs_eds, fzs_izs, fzs_nil, fzs_cons, takeArgs, refPos, refsOf, putBack, List.set_cons_zero, List.set_cons_succ, fz_int, fz_bl, fz_non])))
  refine Q.forL (fun i Γ => ∃ (p : D) (es : List (Int × Int)) (xs : List D) (a b c' : Option D), Γ = [some p, some (.int m), some (.int (1 + c)), some (.dic true true (eds es) xs), a, b, c'] ∧ Pen (k + 5 + 2 * i) p ∧ xs.length = es.length ∧ es.length ≤ i ∧ ∀ e ∈ es, 0 ≤ e.1 ∧ e.1 < e.2 ∧ e.2 < 1 + c) ?_ ?_ ?_
  · exact ⟨_, [], [], _, _, _, rfl, h.mono (by omega), rfl, Nat.zero_le _, fun e m => nomatch m⟩
  · rintro i d Γ hd ⟨p, es, xs, a, b, c', rfl, hp, hl, hl2, he⟩
    obtain ⟨rfl, hi⟩ := rng_get hd
    (repeat (first | (refine Q.seq ?_) | (refine Q.asg ?_) | (refine Q.ret ?_) | (refine Q.drop ?_) | (refine Q.nxt ?_) | (refine Q.setB rfl ?_) | (refine Q.val (by rfl) (by first | rfl | (simp only [cln_tup, cln_lst, clns_cons, clns_nil, clns_izs, clns_eds, cln_edge, cln_int, Bool.and_self, Bool.not_false, Bool.and_true, Bool.true_and]; first | done | fail)) ?_) | (refine Q.valv (by rfl) ?_) | (refine Q.takeI (by rfl) ?_) | (refine Q.consA ?_) | (refine Q.consO ?_) | (refine Q.nilO ?_) | (refine Q.nilP ?_) | (refine Q.tupM ?_) | (refine Q.lstM ?_) | (refine Q.dicE ?_) | (refine Q.call ?_) | (refine Q.refA (by rfl) ?_) | (refine Q.subI (by rfl) ?_) | (refine Q.valA ?_) | (refine Q.nilA ?_) | (refine Q.op2 ?_) | (refine Q.un ?_) | (refine Q.callA ?_) | (refine Q.callS ?_) | (refine Q.forS ?_) | (refine Q.iter ?_) | (refine Q.rng1 ?_) | (refine Q.rng2 ?_) | (refine Q.gtup rfl ?_) | (refine Q.gcons ?_) | (refine Q.gnil ?_) | (refine Q.put0 (by rfl) ?_) | (refine retK_rt (by rfl) ?_) | (refine ⟨Nat.le_of_ble_eq_true rfl, ?_⟩) | (refine ⟨_, rfl, big_ok (by omega) (by omega), ?_⟩) | (refine ⟨_, _, rfl, Bool.and_eq_true_iff.mpr ⟨big_ok (by omega) (by omega), big_ok (by omega) (by omega)⟩, ?_⟩) | (refine Q.truP ?_) | (refine Q.mbl ?_) | (refine Q.mtru ?_) | (refine Q.mnot ?_) | (refine Q.mor ?_) | (refine Q.mand ?_) | (refine ⟨by rfl, _, _, by rfl, ?_⟩) | (refine ⟨_, _, _, by rfl, by rfl, ?_⟩) | (refine ew_add ?_) | (refine ey_add ?_) | (refine ew_ii (by first | rfl | exact decide_eq_true (by omega) | exact cMul_l (by omega) (by omega) | exact cMul_r (by omega) (by omega)) ?_) | (refine ew_mul (by first | rfl | exact cMul_l (by omega) (by omega) | exact cMul_r (by omega) (by omega)) ?_) | (refine ey_ii (by first | rfl | exact decide_eq_true (by omega) | exact cMul_l (by omega) (by omega) | exact cMul_r (by omega) (by omega)) ?_) | (refine ey_mul (by first | rfl | exact cMul_l (by omega) (by omega) | exact cMul_r (by omega) (by omega)) ?_) | (refine ew_neg ?_) | (refine ey_neg ?_) | (refine ew_iB ?_) | (refine ey_iB ?_) | (refine ⟨_, by rfl, ?_⟩) | (refine ⟨(show List.length _ = _ from rfl), ?_⟩) | (simp only [wip, resto, List.getElem?_cons_zero, List.getElem?_cons_succ, Option.join_some, Option.join_none, Int.reduceToNat, seqK_nx, seqK_rt, turnK_nx, turnK_ct, maxI_eq, minI_eq, izs_len, fz_tup, fz_lst, fz_dic, fzs_eds, fzs_izs, fzs_nil, fzs_cons, takeArgs, refPos, refsOf, putBack, List.set_cons_zero, List.set_cons_succ, fz_int, fz_bl, fz_non])))
    (refine (draw_ok (by assumption) (by omega) (by omega) (by omega)).imp ?_; rintro _ _ ⟨one, hpd, rfl, one0, one1, rfl, hp⟩)
    (repeat (first | (refine Q.seq ?_) | (refine Q.asg ?_) | (refine Q.ret ?_) | (refine Q.drop ?_) | (refine Q.nxt ?_) | (refine Q.setB rfl ?_) | (refine Q.val (by rfl) (by first | rfl | (simp only [cln_tup, cln_lst, clns_cons, clns_nil, clns_izs, clns_eds, cln_edge, cln_int, Bool.and_self, Bool.not_false, Bool.and_true, Bool.true_and]; first | done | fail)) ?_) | (refine Q.valv (by rfl) ?_) | (refine Q.takeI (by rfl) ?_) | (refine Q.consA ?_) | (refine Q.consO ?_) | (refine Q.nilO ?_) | (refine Q.nilP ?_) | (refine Q.tupM ?_) | (refine Q.lstM ?_) | (refine Q.dicE ?_) | (refine Q.call ?_) | (refine Q.refA (by rfl) ?_) | (refine Q.subI (by rfl) ?_) | (refine Q.valA ?_) | (refine Q.nilA ?_) | (refine Q.op2 ?_) | (refine Q.un ?_) | (refine Q.callA ?_) | (refine Q.callS ?_) | (refine Q.forS ?_) | (refine Q.iter ?_) | (refine Q.rng1 ?_) | (refine Q.rng2 ?_) | (refine Q.gtup rfl ?_) | (refine Q.gcons ?_) | (refine Q.gnil ?_) | (refine Q.put0 (by rfl) ?_) | (refine retK_rt (by rfl) ?_) | (refine ⟨Nat.le_of_ble_eq_true rfl, ?_⟩) | (refine ⟨_, rfl, big_ok (by omega) (by omega), ?_⟩) | (refine ⟨_, _, rfl, Bool.and_eq_true_iff.mpr ⟨big_ok (by omega) (by omega), big_ok (by omega) (by omega)⟩, ?_⟩) | (refine Q.truP ?_) | (refine Q.mbl ?_) | (refine Q.mtru ?_) | (refine Q.mnot ?_) | (refine Q.mor ?_) | (refine Q.mand ?_) | (refine ⟨by rfl, _, _, by rfl, ?_⟩) | (refine ⟨_, _, _, by rfl, by rfl, ?_⟩) | (refine ew_add ?_) | (refine ey_add ?_) | (refine ew_ii (by first | rfl | exact decide_eq_true (by omega) | exact cMul_l (by omega) (by omega) | exact cMul_r (by omega) (by omega)) ?_) | (refine ew_mul (by first | rfl | exact cMul_l (by omega) (by omega) | exact cMul_r (by omega) (by omega)) ?_) | (refine ey_ii (by first | rfl | exact decide_eq_true (by omega) | exact cMul_l (by omega) (by omega) | exact cMul_r (by omega) (by omega)) ?_) | (refine ey_mul (by first | rfl | exact cMul_l (by omega) (by omega) | exact cMul_r (by omega) (by omega)) ?_) | (refine ew_neg ?_) | (refine ey_neg ?_) | (refine ew_iB ?_) | (refine ey_iB ?_) | (refine ⟨_, by rfl, ?_⟩) | (refine ⟨(show List.length _ = _ from rfl), ?_⟩) | (simp only [wip, resto, List.getElem?_cons_zero, List.getElem?_cons_succ, Option.join_some, Option.join_none, Int.reduceToNat, seqK_nx, seqK_rt, turnK_nx, turnK_ct, maxI_eq, minI_eq, izs_len, fz_tup, fz_lst, fz_dic, fzs_eds, fzs_izs, fzs_nil, fzs_cons, takeArgs, refPos, refsOf, putBack, List.set_cons_zero, List.set_cons_succ, fz_int, fz_bl, fz_non])))
    (refine (draw_ok (by assumption) (by omega) (by omega) (by omega)).imp ?_; rintro _ _ ⟨two, hpd, rfl, two0, two1, rfl, hp⟩)
    (repeat (first | (refine Q.seq ?_) | (refine Q.asg ?_) | (refine Q.ret ?_) | (refine Q.drop ?_) | (refine Q.nxt ?_) | (refine Q.setB rfl ?_) | (refine Q.val (by rfl) (by first | rfl | (simp only [cln_tup, cln_lst, clns_cons, clns_nil, clns_izs, clns_eds, cln_edge, cln_int, Bool.and_self, Bool.not_false, Bool.and_true, Bool.true_and]; first | done | fail)) ?_) | (refine Q.valv (by rfl) ?_) | (refine Q.takeI (by rfl) ?_) | (refine Q.consA ?_) | (refine Q.consO ?_) | (refine Q.nilO ?_) | (refine Q.nilP ?_) | (refine Q.tupM ?_) | (refine Q.lstM ?_) | (refine Q.dicE ?_) | (refine Q.call ?_) | (refine Q.refA (by rfl) ?_) | (refine Q.subI (by rfl) ?_) | (refine Q.valA ?_) | (refine Q.nilA ?_) | (refine Q.op2 ?_) | (refine Q.un ?_) | (refine Q.callA ?_) | (refine Q.callS ?_) | (refine Q.forS ?_) | (refine Q.iter ?_) | (refine Q.rng1 ?_) | (refine Q.rng2 ?_) | (refine Q.gtup rfl ?_) | (refine Q.gcons ?_) | (refine Q.gnil ?_) | (refine Q.put0 (by rfl) ?_) | (refine retK_rt (by rfl) ?_) | (refine ⟨Nat.le_of_ble_eq_true rfl, ?_⟩) | (refine ⟨_, rfl, big_ok (by omega) (by omega), ?_⟩) | (refine ⟨_, _, rfl, Bool.and_eq_true_iff.mpr ⟨big_ok (by omega) (by omega), big_ok (by omega) (by omega)⟩, ?_⟩) | (refine Q.truP ?_) | (refine Q.mbl ?_) | (refine Q.mtru ?_) | (refine Q.mnot ?_) | (refine Q.mor ?_) | (refine Q.mand ?_) | (refine ⟨by rfl, _, _, by rfl, ?_⟩) | (refine ⟨_, _, _, by rfl, by rfl, ?_⟩) | (refine ew_add ?_) | (refine ey_add ?_) | (refine ew_ii (by first | rfl | exact decide_eq_true (by omega) | exact cMul_l (by omega) (by omega) | exact cMul_r (by omega) (by omega)) ?_) | (refine ew_mul (by first | rfl | exact cMul_l (by omega) (by omega) | exact cMul_r (by omega) (by omega)) ?_) | (refine ey_ii (by first | rfl | exact decide_eq_true (by omega) | exact cMul_l (by omega) (by omega) | exact cMul_r (by omega) (by omega)) ?_) | (refine ey_mul (by first | rfl | exact cMul_l (by omega) (by omega) | exact cMul_r (by omega) (by omega)) ?_) | (refine ew_neg ?_) | (refine ey_neg ?_) | (refine ew_iB ?_) | (refine ey_iB ?_) | (refine ⟨_, by rfl, ?_⟩) | (refine ⟨(show List.length _ = _ from rfl), ?_⟩) | (simp only [wip, resto, List.getElem?_cons_zero, List.getElem?_cons_succ, Option.join_some, Option.join_none, Int.reduceToNat, seqK_nx, seqK_rt, turnK_nx, turnK_ct, maxI_eq, minI_eq, izs_len, fz_tup, fz_lst, fz_dic, fzs_eds, fzs_izs, fzs_nil, fzs_cons, takeArgs, refPos, refsOf, putBack, List.set_cons_zero, List.set_cons_succ, fz_int, fz_bl, fz_non])))
    refine Q.ifP (c := !decide (one = two)) (by (simp (disch := omega) only [Int.reduceToNat, atI_z, atI_1, atI_2, List.set_cons_zero, List.set_cons_succ, pOp2, pVar, pCst, pCall, pCons, pNil, pBl, pTru, pNotB, pAndB, pOrB, pAnd, pOr, pNot, pChain, pIf, pUn, pSnoc, iiI, iiB, subX, lenX, blX, truD, seqD, negX, intX, List.getElem?_cons_zero, List.getElem?_cons_succ, List.nil_append, List.cons_append, Int.reduceLT, Int.reduceLE, and_self, and_true, true_and, Bool.and_true, Bool.true_and, decide_eq_true_eq, if_true, if_pos, decide_true, Option.map_some, Bool.false_eq_true, if_false, maxX, minX, neX_int]) <;> rfl) (fun hc => ?_) (fun hc => ?_)
    · have hne : one ≠ two := by simpa using hc
      (repeat (first | (refine Q.seq ?_) | (refine Q.asg ?_) | (refine Q.ret ?_) | (refine Q.drop ?_) | (refine Q.nxt ?_) | (refine Q.setB rfl ?_) | (refine Q.val (by rfl) (by first | rfl | (simp only [cln_tup, cln_lst, clns_cons, clns_nil, clns_izs, clns_eds, cln_edge, cln_int, Bool.and_self, Bool.not_false, Bool.and_true, Bool.true_and]; first | done | fail)) ?_) | (refine Q.valv (by rfl) ?_) | (refine Q.takeI (by rfl) ?_) | (refine Q.consA ?_) | (refine Q.consO ?_) | (refine Q.nilO ?_) | (refine Q.nilP ?_) | (refine Q.tupM ?_) | (refine Q.lstM ?_) | (refine Q.dicE ?_) | (refine Q.call ?_) | (refine Q.refA (by rfl) ?_) | (refine Q.subI (by rfl) ?_) | (refine Q.valA ?_) | (refine Q.nilA ?_) | (refine Q.op2 ?_) | (refine Q.un ?_) | (refine Q.callA ?_) | (refine Q.callS ?_) | (refine Q.forS ?_) | (refine Q.iter ?_) | (refine Q.rng1 ?_) | (refine Q.rng2 ?_) | (refine Q.gtup rfl ?_) | (refine Q.gcons ?_) | (refine Q.gnil ?_) | (refine Q.put0 (by rfl) ?_) | (refine retK_rt (by rfl) ?_) | (refine ⟨Nat.le_of_ble_eq_true rfl, ?_⟩) | (refine ⟨_, rfl, big_ok (by omega) (by omega), ?_⟩) | (refine ⟨_, _, rfl, Bool.and_eq_true_iff.mpr ⟨big_ok (by omega) (by omega), big_ok (by omega) (by omega)⟩, ?_⟩) | (refine Q.truP ?_) | (refine Q.mbl ?_) | (refine Q.mtru ?_) | (refine Q.mnot ?_) | (refine Q.mor ?_) | (refine Q.mand ?_) | (refine ⟨by rfl, _, _, by rfl, ?_⟩) | (refine ⟨_, _, _, by rfl, by rfl, ?_⟩) | (refine ew_add ?_) | (refine ey_add ?_) | (refine ew_ii (by first | rfl | exact decide_eq_true (by omega) | exact cMul_l (by omega) (by omega) | exact cMul_r (by omega) (by omega)) ?_) | (refine ew_mul (by first | rfl | exact cMul_l (by omega) (by omega) | exact cMul_r (by omega) (by omega)) ?_) | (refine ey_ii (by first | rfl | exact decide_eq_true (by omega) | exact cMul_l (by omega) (by omega) | exact cMul_r (by omega) (by omega)) ?_) | (refine ey_mul (by first | rfl | exact cMul_l (by omega) (by omega) | exact cMul_r (by omega) (by omega)) ?_) | (refine ew_neg ?_) | (refine ey_neg ?_) | (refine ew_iB ?_) | (refine ey_iB ?_) | (refine ⟨_, by rfl, ?_⟩) | (refine ⟨(show List.length _ = _ from rfl), ?_⟩) | (simp only [wip, resto, List.getElem?_cons_zero, List.getElem?_cons_succ, Option.join_some, Option.join_none, Int.reduceToNat, seqK_nx, seqK_rt, turnK_nx, turnK_ct, maxI_eq, minI_eq, izs_len, fz_tup, fz_lst, fz_dic, fzs_eds, fzs_izs, fzs_nil, fzs_cons, takeArgs, refPos, refsOf, putBack, List.set_cons_zero, List.set_cons_succ, fz_int, fz_bl, fz_non])))
      obtain ⟨es', xs', e1, e2, e3⟩ := store_edge (es := es) (xs := xs) (e := (min one two, max one two)) (v := .bl true) (size_ok (by omega)) hl
      refine ⟨_, _, _, by rfl, e1, ?_⟩
      (repeat (first | (refine Q.seq ?_) | (refine Q.asg ?_) | (refine Q.ret ?_) | (refine Q.drop ?_) | (refine Q.nxt ?_) | (refine Q.setB rfl ?_) | (refine Q.val (by rfl) (by first | rfl | (simp only [cln_tup, cln_lst, clns_cons, clns_nil, clns_izs, clns_eds, cln_edge, cln_int, Bool.and_self, Bool.not_false, Bool.and_true, Bool.true_and]; first | done | fail)) ?_) | (refine Q.valv (by rfl) ?_) | (refine Q.takeI (by rfl) ?_) | (refine Q.consA ?_) | (refine Q.consO ?_) | (refine Q.nilO ?_) | (refine Q.nilP ?_) | (refine Q.tupM ?_) | (refine Q.lstM ?_) | (refine Q.dicE ?_) | (refine Q.call ?_) | (refine Q.refA (by rfl) ?_) | (refine Q.subI (by rfl) ?_) | (refine Q.valA ?_) | (refine Q.nilA ?_) | (refine Q.op2 ?_) | (refine Q.un ?_) | (refine Q.callA ?_) | (refine Q.callS ?_) | (refine Q.forS ?_) | (refine Q.iter ?_) | (refine Q.rng1 ?_) | (refine Q.rng2 ?_) | (refine Q.gtup rfl ?_) | (refine Q.gcons ?_) | (refine Q.gnil ?_) | (refine Q.put0 (by rfl) ?_) | (refine retK_rt (by rfl) ?_) | (refine ⟨Nat.le_of_ble_eq_true rfl, ?_⟩) | (refine ⟨_, rfl, big_ok (by omega) (by omega), ?_⟩) | (refine ⟨_, _, rfl, Bool.and_eq_true_iff.mpr ⟨big_ok (by omega) (by omega), big_ok (by omega) (by omega)⟩, ?_⟩) | (refine Q.truP ?_) | (refine Q.mbl ?_) | (refine Q.mtru ?_) | (refine Q.mnot ?_) | (refine Q.mor ?_) | (refine Q.mand ?_) | (refine ⟨by rfl, _, _, by rfl, ?_⟩) | (refine ⟨_, _, _, by rfl, by rfl, ?_⟩) | (refine ew_add ?_) | (refine ey_add ?_) | (refine ew_ii (by first | rfl | exact decide_eq_true (by omega) | exact cMul_l (by omega) (by omega) | exact cMul_r (by omega) (by omega)) ?_) | (refine ew_mul (by first | rfl | exact cMul_l (by omega) (by omega) | exact cMul_r (by omega) (by omega)) ?_) | (refine ey_ii (by first | rfl | exact decide_eq_true (by omega) | exact cMul_l (by omega) (by omega) | exact cMul_r (by omega) (by omega)) ?_) | (refine ey_mul (by first | rfl | exact cMul_l (by omega) (by omega) | exact cMul_r (by omega) (by omega)) ?_) | (refine ew_neg ?_) | (refine ey_neg ?_) | (refine ew_iB ?_) | (refine ey_iB ?_) | (refine ⟨_, by rfl, ?_⟩) | (refine ⟨(show List.length _ = _ from rfl), ?_⟩) | (simp only [wip, resto, List.getElem?_cons_zero, List.getElem?_cons_succ, Option.join_some, Option.join_none, Int.reduceToNat, seqK_nx, seqK_rt, turnK_nx, turnK_ct, maxI_eq, minI_eq, izs_len, fz_tup, fz_lst, fz_dic, fzs_eds, fzs_izs, fzs_nil, fzs_cons, takeArgs, refPos, refsOf, putBack, List.set_cons_zero, List.set_cons_succ, fz_int, fz_bl, fz_non])))
      refine ⟨_, _, _, _, _, _, rfl, hp.mono (by omega), e3, ?_, ?_⟩
      · rcases e2 with rfl | rfl
        · omega
        · rw [List.length_append, List.length_singleton]; omega
      · intro e m
        have base : 0 ≤ min one two ∧ min one two < max one two ∧ max one two < 1 + c := by omega
        rcases e2 with rfl | rfl
        · exact he e m
        · rcases List.mem_append.mp m with m | m
          · exact he e m
          · rw [List.mem_singleton.mp m]; exact base
    · (repeat (first | (refine Q.seq ?_) | (refine Q.asg ?_) | (refine Q.ret ?_) | (refine Q.drop ?_) | (refine Q.nxt ?_) | (refine Q.setB rfl ?_) | (refine Q.val (by rfl) (by first | rfl | (simp only [cln_tup, cln_lst, clns_cons, clns_nil, clns_izs, clns_eds, cln_edge, cln_int, Bool.and_self, Bool.not_false, Bool.and_true, Bool.true_and]; first | done | fail)) ?_) | (refine Q.valv (by rfl) ?_) | (refine Q.takeI (by rfl) ?_) | (refine Q.consA ?_) | (refine Q.consO ?_) | (refine Q.nilO ?_) | (refine Q.nilP ?_) | (refine Q.tupM ?_) | (refine Q.lstM ?_) | (refine Q.dicE ?_) | (refine Q.call ?_) | (refine Q.refA (by rfl) ?_) | (refine Q.subI (by rfl) ?_) | (refine Q.valA ?_) | (refine Q.nilA ?_) | (refine Q.op2 ?_) | (refine Q.un ?_) | (refine Q.callA ?_) | (refine Q.callS ?_) | (refine Q.forS ?_) | (refine Q.iter ?_) | (refine Q.rng1 ?_) | (refine Q.rng2 ?_) | (refine Q.gtup rfl ?_) | (refine Q.gcons ?_) | (refine Q.gnil ?_) | (refine Q.put0 (by rfl) ?_) | (refine retK_rt (by rfl) ?_) | (refine ⟨Nat.le_of_ble_eq_true rfl, ?_⟩) | (refine ⟨_, rfl, big_ok (by omega) (by omega), ?_⟩) | (refine ⟨_, _, rfl, Bool.and_eq_true_iff.mpr ⟨big_ok (by omega) (by omega), big_ok (by omega) (by omega)⟩, ?_⟩) | (refine Q.truP ?_) | (refine Q.mbl ?_) | (refine Q.mtru ?_) | (refine Q.mnot ?_) | (refine Q.mor ?_) | (refine Q.mand ?_) | (refine ⟨by rfl, _, _, by rfl, ?_⟩) | (refine ⟨_, _, _, by rfl, by rfl, ?_⟩) | (refine ew_add ?_) | (refine ey_add ?_) | (refine ew_ii (by first | rfl | exact decide_eq_true (by omega) | exact cMul_l (by omega) (by omega) | exact cMul_r (by omega) (by omega)) ?_) | (refine ew_mul (by first | rfl | exact cMul_l (by omega) (by omega) | exact cMul_r (by omega) (by omega)) ?_) | (refine ey_ii (by first | rfl | exact decide_eq_true (by omega) | exact cMul_l (by omega) (by omega) | exact cMul_r (by omega) (by omega)) ?_) | (refine ey_mul (by first | rfl | exact cMul_l (by omega) (by omega) | exact cMul_r (by omega) (by omega)) ?_) | (refine ew_neg ?_) | (refine ey_neg ?_) | (refine ew_iB ?_) | (refine ey_iB ?_) | (refine ⟨_, by rfl, ?_⟩) | (refine ⟨(show List.length _ = _ from rfl), ?_⟩) | (simp only [wip, resto, List.getElem?_cons_zero, List.getElem?_cons_succ, Option.join_some, Option.join_none, Int.reduceToNat, seqK_nx, seqK_rt, turnK_nx, turnK_ct, maxI_eq, minI_eq, izs_len, fz_tup, fz_lst, fz_dic, fzs_eds, fzs_izs, fzs_nil, fzs_cons, takeArgs, refPos, refsOf, putBack, List.set_cons_zero, List.set_cons_succ, fz_int, fz_bl, fz_non])))
      exact ⟨_, _, _, _, _, _, rfl, hp.mono (by omega), hl, by omega, he⟩
  · rintro Γ ⟨p, es, xs, a, b, c', rfl, hp, hl, hl2, he⟩
    (repeat (first | (refine Q.seq ?_) | (refine Q.asg ?_) | (refine Q.ret ?_) | (refine Q.drop ?_) | (refine Q.nxt ?_) | (refine Q.setB rfl ?_) | (refine Q.val (by rfl) (by first | rfl | (simp only [cln_tup, cln_lst, clns_cons, clns_nil, clns_izs, clns_eds, cln_edge, cln_int, Bool.and_self, Bool.not_false, Bool.and_true, Bool.true_and]; first | done | fail)) ?_) | (refine Q.valv (by rfl) ?_) | (refine Q.takeI (by rfl) ?_) | (refine Q.consA ?_) | (refine Q.consO ?_) | (refine Q.nilO ?_) | (refine Q.nilP ?_) | (refine Q.tupM ?_) | (refine Q.lstM ?_) | (refine Q.dicE ?_) | (refine Q.call ?_) | (refine Q.refA (by rfl) ?_) | (refine Q.subI (by rfl) ?_) | (refine Q.valA ?_) | (refine Q.nilA ?_) | (refine Q.op2 ?_) | (refine Q.un ?_) | (refine Q.callA ?_) | (refine Q.callS ?_) | (refine Q.forS ?_) | (refine Q.iter ?_) | (refine Q.rng1 ?_) | (refine Q.rng2 ?_) | (refine Q.gtup rfl ?_) | (refine Q.gcons ?_) | (refine Q.gnil ?_) | (refine Q.put0 (by rfl) ?_) | (refine retK_rt (by rfl) ?_) | (refine ⟨Nat.le_of_ble_eq_true rfl, ?_⟩) | (refine ⟨_, rfl, big_ok (by omega) (by omega), ?_⟩) | (refine ⟨_, _, rfl, Bool.and_eq_true_iff.mpr ⟨big_ok (by omega) (by omega), big_ok (by omega) (by omega)⟩, ?_⟩) | (refine Q.truP ?_) | (refine Q.mbl ?_) | (refine Q.mtru ?_) | (refine Q.mnot ?_) | (refine Q.mor ?_) | (refine Q.mand ?_) | (refine ⟨by rfl, _, _, by rfl, ?_⟩) | (refine ⟨_, _, _, by rfl, by rfl, ?_⟩) | (refine ew_add ?_) | (refine ey_add ?_) | (refine ew_ii (by first | rfl | exact decide_eq_true (by omega) | exact cMul_l (by omega) (by omega) | exact cMul_r (by omega) (by omega)) ?_) | (refine ew_mul (by first | rfl | exact cMul_l (by omega) (by omega) | exact cMul_r (by omega) (by omega)) ?_) | (refine ey_ii (by first | rfl | exact decide_eq_true (by omega) | exact cMul_l (by omega) (by omega) | exact cMul_r (by omega) (by omega)) ?_) | (refine ey_mul (by first | rfl | exact cMul_l (by omega) (by omega) | exact cMul_r (by omega) (by omega)) ?_) | (refine ew_neg ?_) | (refine ey_neg ?_) | (refine ew_iB ?_) | (refine ey_iB ?_) | (refine ⟨_, by rfl, ?_⟩) | (refine ⟨(show List.length _ = _ from rfl), ?_⟩) | (simp only [wip, resto, List.getElem?_cons_zero, List.getElem?_cons_succ, Option.join_some, Option.join_none, Int.reduceToNat, seqK_nx, seqK_rt, turnK_nx, turnK_ct, maxI_eq, minI_eq, izs_len, fz_tup, fz_lst, fz_dic, fzs_eds, fzs_izs, fzs_nil, fzs_cons, takeArgs, refPos, refsOf, putBack, List.set_cons_zero, List.set_cons_succ, fz_int, fz_bl, fz_non])))
    rw [rngD_len] at hp hl2
    obtain ⟨es', e1, e2⟩ := sorted_eds (d := .dic false true (eds es) (fzs xs)) (xs := es) rfl
    refine ⟨_, e1, ?_⟩
    (repeat (first | (refine Q.seq ?_) | (refine Q.asg ?_) | (refine Q.ret ?_) | (refine Q.drop ?_) | (refine Q.nxt ?_) | (refine Q.setB rfl ?_) | (refine Q.val (by rfl) (by first | rfl | (simp only [cln_tup, cln_lst, clns_cons, clns_nil, clns_izs, clns_eds, cln_edge, cln_int, Bool.and_self, Bool.not_false, Bool.and_true, Bool.true_and]; first | done | fail)) ?_) | (refine Q.valv (by rfl) ?_) | (refine Q.takeI (by rfl) ?_) | (refine Q.consA ?_) | (refine Q.consO ?_) | (refine Q.nilO ?_) | (refine Q.nilP ?_) | (refine Q.tupM ?_) | (refine Q.lstM ?_) | (refine Q.dicE ?_) | (refine Q.call ?_) | (refine Q.refA (by rfl) ?_) | (refine Q.subI (by rfl) ?_) | (refine Q.valA ?_) | (refine Q.nilA ?_) | (refine Q.op2 ?_) | (refine Q.un ?_) | (refine Q.callA ?_) | (refine Q.callS ?_) | (refine Q.forS ?_) | (refine Q.iter ?_) | (refine Q.rng1 ?_) | (refine Q.rng2 ?_) | (refine Q.gtup rfl ?_) | (refine Q.gcons ?_) | (refine Q.gnil ?_) | (refine Q.put0 (by rfl) ?_) | (refine retK_rt (by rfl) ?_) | (refine ⟨Nat.le_of_ble_eq_true rfl, ?_⟩) | (refine ⟨_, rfl, big_ok (by omega) (by omega), ?_⟩) | (refine ⟨_, _, rfl, Bool.and_eq_true_iff.mpr ⟨big_ok (by omega) (by omega), big_ok (by omega) (by omega)⟩, ?_⟩) | (refine Q.truP ?_) | (refine Q.mbl ?_) | (refine Q.mtru ?_) | (refine Q.mnot ?_) | (refine Q.mor ?_) | (refine Q.mand ?_) | (refine ⟨by rfl, _, _, by rfl, ?_⟩) | (refine ⟨_, _, _, by rfl, by rfl, ?_⟩) | (refine ew_add ?_) | (refine ey_add ?_) | (refine ew_ii (by first | rfl | exact decide_eq_true (by omega) | exact cMul_l (by omega) (by omega) | exact cMul_r (by omega) (by omega)) ?_) | (refine ew_mul (by first | rfl | exact cMul_l (by omega) (by omega) | exact cMul_r (by omega) (by omega)) ?_) | (refine ey_ii (by first | rfl | exact decide_eq_true (by omega) | exact cMul_l (by omega) (by omega) | exact cMul_r (by omega) (by omega)) ?_) | (refine ey_mul (by first | rfl | exact cMul_l (by omega) (by omega) | exact cMul_r (by omega) (by omega)) ?_) | (refine ew_neg ?_) | (refine ey_neg ?_) | (refine ew_iB ?_) | (refine ey_iB ?_) | (refine ⟨_, by rfl, ?_⟩) | (refine ⟨(show List.length _ = _ from rfl), ?_⟩) | (simp only [wip, resto, List.getElem?_cons_zero, List.getElem?_cons_succ, Option.join_some, Option.join_none, Int.reduceToNat, seqK_nx, seqK_rt, turnK_nx, turnK_ct, maxI_eq, minI_eq, izs_len, fz_tup, fz_lst, fz_dic, fzs_eds, fzs_izs, fzs_nil, fzs_cons, takeArgs, refPos, refsOf, putBack, List.set_cons_zero, List.set_cons_succ, fz_int, fz_bl, fz_non])))
    refine ⟨_, by (unfold tupleX; simp only [clns_eds, if_true]) <;> rfl, ?_⟩
    (repeat (first | (refine Q.seq ?_) | (refine Q.asg ?_) | (refine Q.ret ?_) | (refine Q.drop ?_) | (refine Q.nxt ?_) | (refine Q.setB rfl ?_) | (refine Q.val (by rfl) (by first | rfl | (simp only [cln_tup, cln_lst, clns_cons, clns_nil, clns_izs, clns_eds, cln_edge, cln_int, Bool.and_self, Bool.not_false, Bool.and_true, Bool.true_and]; first | done | fail)) ?_) | (refine Q.valv (by rfl) ?_) | (refine Q.takeI (by rfl) ?_) | (refine Q.consA ?_) | (refine Q.consO ?_) | (refine Q.nilO ?_) | (refine Q.nilP ?_) | (refine Q.tupM ?_) | (refine Q.lstM ?_) | (refine Q.dicE ?_) | (refine Q.call ?_) | (refine Q.refA (by rfl) ?_) | (refine Q.subI (by rfl) ?_) | (refine Q.valA ?_) | (refine Q.nilA ?_) | (refine Q.op2 ?_) | (refine Q.un ?_) | (refine Q.callA ?_) | (refine Q.callS ?_) | (refine Q.forS ?_) | (refine Q.iter ?_) | (refine Q.rng1 ?_) | (refine Q.rng2 ?_) | (refine Q.gtup rfl ?_) | (refine Q.gcons ?_) | (refine Q.gnil ?_) | (refine Q.put0 (by rfl) ?_) | (refine retK_rt (by rfl) ?_) | (refine ⟨Nat.le_of_ble_eq_true rfl, ?_⟩) | (refine ⟨_, rfl, big_ok (by omega) (by omega), ?_⟩) | (refine ⟨_, _, rfl, Bool.and_eq_true_iff.mpr ⟨big_ok (by omega) (by omega), big_ok (by omega) (by omega)⟩, ?_⟩) | (refine Q.truP ?_) | (refine Q.mbl ?_) | (refine Q.mtru ?_) | (refine Q.mnot ?_) | (refine Q.mor ?_) | (refine Q.mand ?_) | (refine ⟨by rfl, _, _, by rfl, ?_⟩) | (refine ⟨_, _, _, by rfl, by rfl, ?_⟩) | (refine ew_add ?_) | (refine ey_add ?_) | (refine ew_ii (by first | rfl | exact decide_eq_true (by omega) | exact cMul_l (by omega) (by omega) | exact cMul_r (by omega) (by omega)) ?_) | (refine ew_mul (by first | rfl | exact cMul_l (by omega) (by omega) | exact cMul_r (by omega) (by omega)) ?_) | (refine ey_ii (by first | rfl | exact decide_eq_true (by omega) | exact cMul_l (by omega) (by omega) | exact cMul_r (by omega) (by omega)) ?_) | (refine ey_mul (by first | rfl | exact cMul_l (by omega) (by omega) | exact cMul_r (by omega) (by omega)) ?_) | (refine ew_neg ?_) | (refine ey_neg ?_) | (refine ew_iB ?_) | (refine ey_iB ?_) | (refine ⟨_, by rfl, ?_⟩) | (refine ⟨(show List.length _ = _ from rfl), ?_⟩) | (simp only [wip, resto, List.getElem?_cons_zero, List.getElem?_cons_succ, Option.join_some, Option.join_none, Int.reduceToNat, seqK_nx, seqK_rt, turnK_nx, turnK_ct, maxI_eq, minI_eq, izs_len, fz_tup, fz_lst, fz_dic, fzs_eds, fzs_izs, fzs_nil, fzs_cons, takeArgs, refPos, refsOf, putBack, List.set_cons_zero, List.set_cons_succ, fz_int, fz_bl, fz_non])))
    exact ⟨_, es', _, rfl, by omega, by omega, fun e m => he e (e2.mem_iff.mp m), by rw [e2.length_eq]; omega, rfl, hp.mono (by omega)⟩
/-- what a hueing is -/
def hueB (n : Int) (es : List (Int × Int)) (k : Int) (hs : List Int) : Bool := (decide ((hs.length : Int) = n) && hs.all fun h => decide (0 ≤ h) && decide (h < k)) && es.all fun e => !decide (hs.getD e.1.toNat 0 = hs.getD e.2.toNat 0)
theorem getD_of {hs : List Int} {i : Nat} {x : Int} (h : hs[i]? = some x) : hs.getD i 0 = x := by rw [List.getD_eq_getElem?_getD, h]; rfl
theorem law_is_hueing_ok {n k : Int} {es : List (Int × Int)} {hs : List Int} (he : ∀ e ∈ es, 0 ≤ e.1 ∧ e.1 < e.2 ∧ e.2 < n) (hl : es.length ≤ 100000) (hl2 : hs.length ≤ 100000) : Ret (law_is_hueingF [webD n es, .int k, .lst false (izs hs)]) fun r os => r = .bl (hueB n es k hs) ∧ os = [] := by
  refine Q.start (by (simp only [entry, List.map_cons, List.map_nil, List.length_cons, List.length_nil, List.replicate, List.cons_append, List.nil_append, Nat.reduceAdd, Nat.reduceSub]) <;> rfl) ?_
  unfold law_is_hueingB
  (repeat (first | (refine Q.seq ?_) | (refine Q.asg ?_) | (refine Q.ret ?_) | (refine Q.drop ?_) | (refine Q.nxt ?_) | (refine Q.setB rfl ?_) | (refine Q.val (by rfl) (by first | rfl | (simp only [cln_tup, cln_lst, clns_cons, clns_nil, clns_izs, clns_eds, cln_edge, cln_int, Bool.and_self, Bool.not_false, Bool.and_true, Bool.true_and]; first | done | fail)) ?_) | (refine Q.valv (by rfl) ?_) | (refine Q.takeI (by rfl) ?_) | (refine Q.consA ?_) | (refine Q.consO ?_) | (refine Q.nilO ?_) | (refine Q.nilP ?_) | (refine Q.tupM ?_) | (refine Q.lstM ?_) | (refine Q.dicE ?_) | (refine Q.call ?_) | (refine Q.refA (by rfl) ?_) | (refine Q.subI (by rfl) ?_) | (refine Q.valA ?_) | (refine Q.nilA ?_) | (refine Q.op2 ?_) | (refine Q.un ?_) | (refine Q.callA ?_) | (refine Q.callS ?_) | (refine Q.forS ?_) | (refine Q.iter ?_) | (refine Q.rng1 ?_) | (refine Q.rng2 ?_) | (refine Q.gtup rfl ?_) | (refine Q.gcons ?_) | (refine Q.gnil ?_) | (refine Q.put0 (by rfl) ?_) | (refine retK_rt (by rfl) ?_) | (refine ⟨Nat.le_of_ble_eq_true rfl, ?_⟩) | (refine ⟨_, rfl, big_ok (by omega) (by omega), ?_⟩) | (refine ⟨_, _, rfl, Bool.and_eq_true_iff.mpr ⟨big_ok (by omega) (by omega), big_ok (by omega) (by omega)⟩, ?_⟩) | (refine Q.truP ?_) | (refine Q.mbl ?_) | (refine Q.mtru ?_) | (refine Q.mnot ?_) | (refine Q.mor ?_) | (refine Q.mand ?_) | (refine ⟨by rfl, _, _, by rfl, ?_⟩) | (refine ⟨_, _, _, by rfl, by rfl, ?_⟩) | (refine ew_add ?_) | (refine ey_add ?_) | (refine ew_ii (by first | rfl | exact decide_eq_true (by omega) | exact cMul_l (by omega) (by omega) | exact cMul_r (by omega) (by omega)) ?_) | (refine ew_mul (by first | rfl | exact cMul_l (by omega) (by omega) | exact cMul_r (by omega) (by omega)) ?_) | (refine ey_ii (by first | rfl | exact decide_eq_true (by omega) | exact cMul_l (by omega) (by omega) | exact cMul_r (by omega) (by omega)) ?_) | (refine ey_mul (by first | rfl | exact cMul_l (by omega) (by omega) | exact cMul_r (by omega) (by omega)) ?_) | (refine ew_neg ?_) | (refine ey_neg ?_) | (refine ew_iB ?_) | (refine ey_iB ?_) | (refine ⟨_, by rfl, ?_⟩) | (refine ⟨(show List.length _ = _ from rfl), ?_⟩) | (simp only [wip, resto, List.getElem?_cons_zero, List.getElem?_cons_succ, Option.join_some, Option.join_none, Int.reduceToNat, seqK_nx, seqK_rt, turnK_nx, turnK_ct, maxI_eq, minI_eq, izs_len, fz_tup, fz_lst, fz_dic, fzs_eds, fzs_izs, fzs_nil, fzs_cons, takeArgs, refPos, refsOf, putBack, List.set_cons_zero, List.set_cons_succ, fz_int, fz_bl, fz_non])))
  refine Q.ifC (!(decide ((hs.length : Int) = n) && hs.all fun h => decide (0 ≤ h) && decide (h < k))) [some (webD n es), some (.int k), some (.lst false (izs hs)), none, none, none] ?_ (fun hc => ?_) (fun hc => ?_)
  · (repeat (first | (refine Q.seq ?_) | (refine Q.asg ?_) | (refine Q.ret ?_) | (refine Q.drop ?_) | (refine Q.nxt ?_) | (refine Q.setB rfl ?_) | (refine Q.val (by rfl) (by first | rfl | (simp only [cln_tup, cln_lst, clns_cons, clns_nil, clns_izs, clns_eds, cln_edge, cln_int, Bool.and_self, Bool.not_false, Bool.and_true, Bool.true_and]; first | done | fail)) ?_) | (refine Q.valv (by rfl) ?_) | (refine Q.takeI (by rfl) ?_) | (refine Q.consA ?_) | (refine Q.consO ?_) | (refine Q.nilO ?_) | (refine Q.nilP ?_) | (refine Q.tupM ?_) | (refine Q.lstM ?_) | (refine Q.dicE ?_) | (refine Q.call ?_) | (refine Q.refA (by rfl) ?_) | (refine Q.subI (by rfl) ?_) | (refine Q.valA ?_) | (refine Q.nilA ?_) | (refine Q.op2 ?_) | (refine Q.un ?_) | (refine Q.callA ?_) | (refine Q.callS ?_) | (refine Q.forS ?_) | (refine Q.iter ?_) | (refine Q.rng1 ?_) | (refine Q.rng2 ?_) | (refine Q.gtup rfl ?_) | (refine Q.gcons ?_) | (refine Q.gnil ?_) | (refine Q.put0 (by rfl) ?_) | (refine retK_rt (by rfl) ?_) | (refine ⟨Nat.le_of_ble_eq_true rfl, ?_⟩) | (refine ⟨_, rfl, big_ok (by omega) (by omega), ?_⟩) | (refine ⟨_, _, rfl, Bool.and_eq_true_iff.mpr ⟨big_ok (by omega) (by omega), big_ok (by omega) (by omega)⟩, ?_⟩) | (refine Q.truP ?_) | (refine Q.mbl ?_) | (refine Q.mtru ?_) | (refine Q.mnot ?_) | (refine Q.mor ?_) | (refine Q.mand ?_) | (refine ⟨by rfl, _, _, by rfl, ?_⟩) | (refine ⟨_, _, _, by rfl, by rfl, ?_⟩) | (refine ew_add ?_) | (refine ey_add ?_) | (refine ew_ii (by first | rfl | exact decide_eq_true (by omega) | exact cMul_l (by omega) (by omega) | exact cMul_r (by omega) (by omega)) ?_) | (refine ew_mul (by first | rfl | exact cMul_l (by omega) (by omega) | exact cMul_r (by omega) (by omega)) ?_) | (refine ey_ii (by first | rfl | exact decide_eq_true (by omega) | exact cMul_l (by omega) (by omega) | exact cMul_r (by omega) (by omega)) ?_) | (refine ey_mul (by first | rfl | exact cMul_l (by omega) (by omega) | exact cMul_r (by omega) (by omega)) ?_) | (refine ew_neg ?_) | (refine ey_neg ?_) | (refine ew_iB ?_) | (refine ey_iB ?_) | (refine ⟨_, by rfl, ?_⟩) | (refine ⟨(show List.length _ = _ from rfl), ?_⟩) | (simp only [wip, resto, List.getElem?_cons_zero, List.getElem?_cons_succ, Option.join_some, Option.join_none, Int.reduceToNat, seqK_nx, seqK_rt, turnK_nx, turnK_ct, maxI_eq, minI_eq, izs_len, fz_tup, fz_lst, fz_dic, fzs_eds, fzs_izs, fzs_nil, fzs_cons, takeArgs, refPos, refsOf, putBack, List.set_cons_zero, List.set_cons_succ, fz_int, fz_bl, fz_non])))
    refine Q.tst (c := !decide ((hs.length : Int) = n)) (by (simp (disch := omega) only [Int.reduceToNat, atI_z, atI_1, atI_2, List.set_cons_zero, List.set_cons_succ, pOp2, pVar, pCst, pCall, pCons, pNil, pBl, pTru, pNotB, pAndB, pOrB, pAnd, pOr, pNot, pChain, pIf, pUn, pSnoc, iiI, iiB, subX, lenX, blX, truD, seqD, negX, intX, List.getElem?_cons_zero, List.getElem?_cons_succ, List.nil_append, List.cons_append, Int.reduceLT, Int.reduceLE, and_self, and_true, true_and, Bool.and_true, Bool.true_and, decide_eq_true_eq, if_true, if_pos, decide_true, Option.map_some, Bool.false_eq_true, if_false, maxX, minX, neX_int, List.length_map]) <;> rfl) ?_
    cases hd : decide ((hs.length : Int) = n) with
    | false => exact ⟨rfl, rfl⟩
    | true =>
      rw [Bool.not_true, if_neg Bool.false_ne_true]
      (repeat (first | (refine Q.seq ?_) | (refine Q.asg ?_) | (refine Q.ret ?_) | (refine Q.drop ?_) | (refine Q.nxt ?_) | (refine Q.setB rfl ?_) | (refine Q.val (by rfl) (by first | rfl | (simp only [cln_tup, cln_lst, clns_cons, clns_nil, clns_izs, clns_eds, cln_edge, cln_int, Bool.and_self, Bool.not_false, Bool.and_true, Bool.true_and]; first | done | fail)) ?_) | (refine Q.valv (by rfl) ?_) | (refine Q.takeI (by rfl) ?_) | (refine Q.consA ?_) | (refine Q.consO ?_) | (refine Q.nilO ?_) | (refine Q.nilP ?_) | (refine Q.tupM ?_) | (refine Q.lstM ?_) | (refine Q.dicE ?_) | (refine Q.call ?_) | (refine Q.refA (by rfl) ?_) | (refine Q.subI (by rfl) ?_) | (refine Q.valA ?_) | (refine Q.nilA ?_) | (refine Q.op2 ?_) | (refine Q.un ?_) | (refine Q.callA ?_) | (refine Q.callS ?_) | (refine Q.forS ?_) | (refine Q.iter ?_) | (refine Q.rng1 ?_) | (refine Q.rng2 ?_) | (refine Q.gtup rfl ?_) | (refine Q.gcons ?_) | (refine Q.gnil ?_) | (refine Q.put0 (by rfl) ?_) | (refine retK_rt (by rfl) ?_) | (refine ⟨Nat.le_of_ble_eq_true rfl, ?_⟩) | (refine ⟨_, rfl, big_ok (by omega) (by omega), ?_⟩) | (refine ⟨_, _, rfl, Bool.and_eq_true_iff.mpr ⟨big_ok (by omega) (by omega), big_ok (by omega) (by omega)⟩, ?_⟩) | (refine Q.truP ?_) | (refine Q.mbl ?_) | (refine Q.mtru ?_) | (refine Q.mnot ?_) | (refine Q.mor ?_) | (refine Q.mand ?_) | (refine ⟨by rfl, _, _, by rfl, ?_⟩) | (refine ⟨_, _, _, by rfl, by rfl, ?_⟩) | (refine ew_add ?_) | (refine ey_add ?_) | (refine ew_ii (by first | rfl | exact decide_eq_true (by omega) | exact cMul_l (by omega) (by omega) | exact cMul_r (by omega) (by omega)) ?_) | (refine ew_mul (by first | rfl | exact cMul_l (by omega) (by omega) | exact cMul_r (by omega) (by omega)) ?_) | (refine ey_ii (by first | rfl | exact decide_eq_true (by omega) | exact cMul_l (by omega) (by omega) | exact cMul_r (by omega) (by omega)) ?_) | (refine ey_mul (by first | rfl | exact cMul_l (by omega) (by omega) | exact cMul_r (by omega) (by omega)) ?_) | (refine ew_neg ?_) | (refine ey_neg ?_) | (refine ew_iB ?_) | (refine ey_iB ?_) | (refine ⟨_, by rfl, ?_⟩) | (refine ⟨(show List.length _ = _ from rfl), ?_⟩) | (simp only [wip, resto, List.getElem?_cons_zero, List.getElem?_cons_succ, Option.join_some, Option.join_none, Int.reduceToNat, seqK_nx, seqK_rt, turnK_nx, turnK_ct, maxI_eq, minI_eq, izs_len, fz_tup, fz_lst, fz_dic, fzs_eds, fzs_izs, fzs_nil, fzs_cons, takeArgs, refPos, refsOf, putBack, List.set_cons_zero, List.set_cons_succ, fz_int, fz_bl, fz_non])))
      (refine Q.lcF ?_; (repeat (first | (refine Q.seq ?_) | (refine Q.asg ?_) | (refine Q.ret ?_) | (refine Q.drop ?_) | (refine Q.nxt ?_) | (refine Q.setB rfl ?_) | (refine Q.val (by rfl) (by first | rfl | (simp only [cln_tup, cln_lst, clns_cons, clns_nil, clns_izs, clns_eds, cln_edge, cln_int, Bool.and_self, Bool.not_false, Bool.and_true, Bool.true_and]; first | done | fail)) ?_) | (refine Q.valv (by rfl) ?_) | (refine Q.takeI (by rfl) ?_) | (refine Q.consA ?_) | (refine Q.consO ?_) | (refine Q.nilO ?_) | (refine Q.nilP ?_) | (refine Q.tupM ?_) | (refine Q.lstM ?_) | (refine Q.dicE ?_) | (refine Q.call ?_) | (refine Q.refA (by rfl) ?_) | (refine Q.subI (by rfl) ?_) | (refine Q.valA ?_) | (refine Q.nilA ?_) | (refine Q.op2 ?_) | (refine Q.un ?_) | (refine Q.callA ?_) | (refine Q.callS ?_) | (refine Q.forS ?_) | (refine Q.iter ?_) | (refine Q.rng1 ?_) | (refine Q.rng2 ?_) | (refine Q.gtup rfl ?_) | (refine Q.gcons ?_) | (refine Q.gnil ?_) | (refine Q.put0 (by rfl) ?_) | (refine retK_rt (by rfl) ?_) | (refine ⟨Nat.le_of_ble_eq_true rfl, ?_⟩) | (refine ⟨_, rfl, big_ok (by omega) (by omega), ?_⟩) | (refine ⟨_, _, rfl, Bool.and_eq_true_iff.mpr ⟨big_ok (by omega) (by omega), big_ok (by omega) (by omega)⟩, ?_⟩) | (refine Q.truP ?_) | (refine Q.mbl ?_) | (refine Q.mtru ?_) | (refine Q.mnot ?_) | (refine Q.mor ?_) | (refine Q.mand ?_) | (refine ⟨by rfl, _, _, by rfl, ?_⟩) | (refine ⟨_, _, _, by rfl, by rfl, ?_⟩) | (refine ew_add ?_) | (refine ey_add ?_) | (refine ew_ii (by first | rfl | exact decide_eq_true (by omega) | exact cMul_l (by omega) (by omega) | exact cMul_r (by omega) (by omega)) ?_) | (refine ew_mul (by first | rfl | exact cMul_l (by omega) (by omega) | exact cMul_r (by omega) (by omega)) ?_) | (refine ey_ii (by first | rfl | exact decide_eq_true (by omega) | exact cMul_l (by omega) (by omega) | exact cMul_r (by omega) (by omega)) ?_) | (refine ey_mul (by first | rfl | exact cMul_l (by omega) (by omega) | exact cMul_r (by omega) (by omega)) ?_) | (refine ew_neg ?_) | (refine ey_neg ?_) | (refine ew_iB ?_) | (refine ey_iB ?_) | (refine ⟨_, by rfl, ?_⟩) | (refine ⟨(show List.length _ = _ from rfl), ?_⟩) | (simp only [wip, resto, List.getElem?_cons_zero, List.getElem?_cons_succ, Option.join_some, Option.join_none, Int.reduceToNat, seqK_nx, seqK_rt, turnK_nx, turnK_ct, maxI_eq, minI_eq, izs_len, fz_tup, fz_lst, fz_dic, fzs_eds, fzs_izs, fzs_nil, fzs_cons, takeArgs, refPos, refsOf, putBack, List.set_cons_zero, List.set_cons_succ, fz_int, fz_bl, fz_non]))); refine ⟨by rfl, by ((try simp only [rngD_len, List.length_map]); have := Nat.le_of_ble_eq_true (show Nat.ble 10000000 sizeLine = true from rfl); omega), fun d => match d with | .int h => .bl (decide (0 ≤ h) && decide (h < k)) | _ => .non, ?_, ?_⟩)
      · intro d hd
        obtain ⟨h, hm, rfl⟩ := List.mem_map.mp hd
        (repeat (first | (refine Q.seq ?_) | (refine Q.asg ?_) | (refine Q.ret ?_) | (refine Q.drop ?_) | (refine Q.nxt ?_) | (refine Q.setB rfl ?_) | (refine Q.val (by rfl) (by first | rfl | (simp only [cln_tup, cln_lst, clns_cons, clns_nil, clns_izs, clns_eds, cln_edge, cln_int, Bool.and_self, Bool.not_false, Bool.and_true, Bool.true_and]; first | done | fail)) ?_) | (refine Q.valv (by rfl) ?_) | (refine Q.takeI (by rfl) ?_) | (refine Q.consA ?_) | (refine Q.consO ?_) | (refine Q.nilO ?_) | (refine Q.nilP ?_) | (refine Q.tupM ?_) | (refine Q.lstM ?_) | (refine Q.dicE ?_) | (refine Q.call ?_) | (refine Q.refA (by rfl) ?_) | (refine Q.subI (by rfl) ?_) | (refine Q.valA ?_) | (refine Q.nilA ?_) | (refine Q.op2 ?_) | (refine Q.un ?_) | (refine Q.callA ?_) | (refine Q.callS ?_) | (refine Q.forS ?_) | (refine Q.iter ?_) | (refine Q.rng1 ?_) | (refine Q.rng2 ?_) | (refine Q.gtup rfl ?_) | (refine Q.gcons ?_) | (refine Q.gnil ?_) | (refine Q.put0 (by rfl) ?_) | (refine retK_rt (by rfl) ?_) | (refine ⟨Nat.le_of_ble_eq_true rfl, ?_⟩) | (refine ⟨_, rfl, big_ok (by omega) (by omega), ?_⟩) | (refine ⟨_, _, rfl, Bool.and_eq_true_iff.mpr ⟨big_ok (by omega) (by omega), big_ok (by omega) (by omega)⟩, ?_⟩) | (refine Q.truP ?_) | (refine Q.mbl ?_) | (refine Q.mtru ?_) | (refine Q.mnot ?_) | (refine Q.mor ?_) | (refine Q.mand ?_) | (refine ⟨by rfl, _, _, by rfl, ?_⟩) | (refine ⟨_, _, _, by rfl, by rfl, ?_⟩) | (refine ew_add ?_) | (refine ey_add ?_) | (refine ew_ii (by first | rfl | exact decide_eq_true (by omega) | exact cMul_l (by omega) (by omega) | exact cMul_r (by omega) (by omega)) ?_) | (refine ew_mul (by first | rfl | exact cMul_l (by omega) (by omega) | exact cMul_r (by omega) (by omega)) ?_) | (refine ey_ii (by first | rfl | exact decide_eq_true (by omega) | exact cMul_l (by omega) (by omega) | exact cMul_r (by omega) (by omega)) ?_) | (refine ey_mul (by first | rfl | exact cMul_l (by omega) (by omega) | exact cMul_r (by omega) (by omega)) ?_) | (refine ew_neg ?_) | (refine ey_neg ?_) | (refine ew_iB ?_) | (refine ey_iB ?_) | (refine ⟨_, by rfl, ?_⟩) | (refine ⟨(show List.length _ = _ from rfl), ?_⟩) | (simp only [wip, resto, List.getElem?_cons_zero, List.getElem?_cons_succ, Option.join_some, Option.join_none, Int.reduceToNat, seqK_nx, seqK_rt, turnK_nx, turnK_ct, maxI_eq, minI_eq, izs_len, fz_tup, fz_lst, fz_dic, fzs_eds, fzs_izs, fzs_nil, fzs_cons, takeArgs, refPos, refsOf, putBack, List.set_cons_zero, List.set_cons_succ, fz_int, fz_bl, fz_non])))
        refine Q.val (ev_andD (by rfl) fun _ => by rfl) (by rfl) ?_
        (repeat (first | (refine Q.seq ?_) | (refine Q.asg ?_) | (refine Q.ret ?_) | (refine Q.drop ?_) | (refine Q.nxt ?_) | (refine Q.setB rfl ?_) | (refine Q.val (by rfl) (by first | rfl | (simp only [cln_tup, cln_lst, clns_cons, clns_nil, clns_izs, clns_eds, cln_edge, cln_int, Bool.and_self, Bool.not_false, Bool.and_true, Bool.true_and]; first | done | fail)) ?_) | (refine Q.valv (by rfl) ?_) | (refine Q.takeI (by rfl) ?_) | (refine Q.consA ?_) | (refine Q.consO ?_) | (refine Q.nilO ?_) | (refine Q.nilP ?_) | (refine Q.tupM ?_) | (refine Q.lstM ?_) | (refine Q.dicE ?_) | (refine Q.call ?_) | (refine Q.refA (by rfl) ?_) | (refine Q.subI (by rfl) ?_) | (refine Q.valA ?_) | (refine Q.nilA ?_) | (refine Q.op2 ?_) | (refine Q.un ?_) | (refine Q.callA ?_) | (refine Q.callS ?_) | (refine Q.forS ?_) | (refine Q.iter ?_) | (refine Q.rng1 ?_) | (refine Q.rng2 ?_) | (refine Q.gtup rfl ?_) | (refine Q.gcons ?_) | (refine Q.gnil ?_) | (refine Q.put0 (by rfl) ?_) | (refine retK_rt (by rfl) ?_) | (refine ⟨Nat.le_of_ble_eq_true rfl, ?_⟩) | (refine ⟨_, rfl, big_ok (by omega) (by omega), ?_⟩) | (refine ⟨_, _, rfl, Bool.and_eq_true_iff.mpr ⟨big_ok (by omega) (by omega), big_ok (by omega) (by omega)⟩, ?_⟩) | (refine Q.truP ?_) | (refine Q.mbl ?_) | (refine Q.mtru ?_) | (refine Q.mnot ?_) | (refine Q.mor ?_) | (refine Q.mand ?_) | (refine ⟨by rfl, _, _, by rfl, ?_⟩) | (refine ⟨_, _, _, by rfl, by rfl, ?_⟩) | (refine ew_add ?_) | (refine ey_add ?_) | (refine ew_ii (by first | rfl | exact decide_eq_true (by omega) | exact cMul_l (by omega) (by omega) | exact cMul_r (by omega) (by omega)) ?_) | (refine ew_mul (by first | rfl | exact cMul_l (by omega) (by omega) | exact cMul_r (by omega) (by omega)) ?_) | (refine ey_ii (by first | rfl | exact decide_eq_true (by omega) | exact cMul_l (by omega) (by omega) | exact cMul_r (by omega) (by omega)) ?_) | (refine ey_mul (by first | rfl | exact cMul_l (by omega) (by omega) | exact cMul_r (by omega) (by omega)) ?_) | (refine ew_neg ?_) | (refine ey_neg ?_) | (refine ew_iB ?_) | (refine ey_iB ?_) | (refine ⟨_, by rfl, ?_⟩) | (refine ⟨(show List.length _ = _ from rfl), ?_⟩) | (simp only [wip, resto, List.getElem?_cons_zero, List.getElem?_cons_succ, Option.join_some, Option.join_none, Int.reduceToNat, seqK_nx, seqK_rt, turnK_nx, turnK_ct, maxI_eq, minI_eq, izs_len, fz_tup, fz_lst, fz_dic, fzs_eds, fzs_izs, fzs_nil, fzs_cons, takeArgs, refPos, refsOf, putBack, List.set_cons_zero, List.set_cons_succ, fz_int, fz_bl, fz_non])))
        exact ⟨trivial, trivial⟩
      · (repeat (first | (refine Q.seq ?_) | (refine Q.asg ?_) | (refine Q.ret ?_) | (refine Q.drop ?_) | (refine Q.nxt ?_) | (refine Q.setB rfl ?_) | (refine Q.val (by rfl) (by first | rfl | (simp only [cln_tup, cln_lst, clns_cons, clns_nil, clns_izs, clns_eds, cln_edge, cln_int, Bool.and_self, Bool.not_false, Bool.and_true, Bool.true_and]; first | done | fail)) ?_) | (refine Q.valv (by rfl) ?_) | (refine Q.takeI (by rfl) ?_) | (refine Q.consA ?_) | (refine Q.consO ?_) | (refine Q.nilO ?_) | (refine Q.nilP ?_) | (refine Q.tupM ?_) | (refine Q.lstM ?_) | (refine Q.dicE ?_) | (refine Q.call ?_) | (refine Q.refA (by rfl) ?_) | (refine Q.subI (by rfl) ?_) | (refine Q.valA ?_) | (refine Q.nilA ?_) | (refine Q.op2 ?_) | (refine Q.un ?_) | (refine Q.callA ?_) | (refine Q.callS ?_) | (refine Q.forS ?_) | (refine Q.iter ?_) | (refine Q.rng1 ?_) | (refine Q.rng2 ?_) | (refine Q.gtup rfl ?_) | (refine Q.gcons ?_) | (refine Q.gnil ?_) | (refine Q.put0 (by rfl) ?_) | (refine retK_rt (by rfl) ?_) | (refine ⟨Nat.le_of_ble_eq_true rfl, ?_⟩) | (refine ⟨_, rfl, big_ok (by omega) (by omega), ?_⟩) | (refine ⟨_, _, rfl, Bool.and_eq_true_iff.mpr ⟨big_ok (by omega) (by omega), big_ok (by omega) (by omega)⟩, ?_⟩) | (refine Q.truP ?_) | (refine Q.mbl ?_) | (refine Q.mtru ?_) | (refine Q.mnot ?_) | (refine Q.mor ?_) | (refine Q.mand ?_) | (refine ⟨by rfl, _, _, by rfl, ?_⟩) | (refine ⟨_, _, _, by rfl, by rfl, ?_⟩) | (refine ew_add ?_) | (refine ey_add ?_) | (refine ew_ii (by first | rfl | exact decide_eq_true (by omega) | exact cMul_l (by omega) (by omega) | exact cMul_r (by omega) (by omega)) ?_) | (refine ew_mul (by first | rfl | exact cMul_l (by omega) (by omega) | exact cMul_r (by omega) (by omega)) ?_) | (refine ey_ii (by first | rfl | exact decide_eq_true (by omega) | exact cMul_l (by omega) (by omega) | exact cMul_r (by omega) (by omega)) ?_) | (refine ey_mul (by first | rfl | exact cMul_l (by omega) (by omega) | exact cMul_r (by omega) (by omega)) ?_) | (refine ew_neg ?_) | (refine ey_neg ?_) | (refine ew_iB ?_) | (refine ey_iB ?_) | (refine ⟨_, by rfl, ?_⟩) | (refine ⟨(show List.length _ = _ from rfl), ?_⟩) | (simp only [wip, resto, List.getElem?_cons_zero, List.getElem?_cons_succ, Option.join_some, Option.join_none, Int.reduceToNat, seqK_nx, seqK_rt, turnK_nx, turnK_ct, maxI_eq, minI_eq, izs_len, fz_tup, fz_lst, fz_dic, fzs_eds, fzs_izs, fzs_nil, fzs_cons, takeArgs, refPos, refsOf, putBack, List.set_cons_zero, List.set_cons_succ, fz_int, fz_bl, fz_non])))
        rw [izs, List.map_map]
        refine ⟨_, all_blsF (f := fun h => decide (0 ≤ h) && decide (h < k)) fun h _ => rfl, rfl, _, rfl, by rw [Bool.true_and], trivial⟩
  · (repeat (first | (refine Q.seq ?_) | (refine Q.asg ?_) | (refine Q.ret ?_) | (refine Q.drop ?_) | (refine Q.nxt ?_) | (refine Q.setB rfl ?_) | (refine Q.val (by rfl) (by first | rfl | (simp only [cln_tup, cln_lst, clns_cons, clns_nil, clns_izs, clns_eds, cln_edge, cln_int, Bool.and_self, Bool.not_false, Bool.and_true, Bool.true_and]; first | done | fail)) ?_) | (refine Q.valv (by rfl) ?_) | (refine Q.takeI (by rfl) ?_) | (refine Q.consA ?_) | (refine Q.consO ?_) | (refine Q.nilO ?_) | (refine Q.nilP ?_) | (refine Q.tupM ?_) | (refine Q.lstM ?_) | (refine Q.dicE ?_) | (refine Q.call ?_) | (refine Q.refA (by rfl) ?_) | (refine Q.subI (by rfl) ?_) | (refine Q.valA ?_) | (refine Q.nilA ?_) | (refine Q.op2 ?_) | (refine Q.un ?_) | (refine Q.callA ?_) | (refine Q.callS ?_) | (refine Q.forS ?_) | (refine Q.iter ?_) | (refine Q.rng1 ?_) | (refine Q.rng2 ?_) | (refine Q.gtup rfl ?_) | (refine Q.gcons ?_) | (refine Q.gnil ?_) | (refine Q.put0 (by rfl) ?_) | (refine retK_rt (by rfl) ?_) | (refine ⟨Nat.le_of_ble_eq_true rfl, ?_⟩) | (refine ⟨_, rfl, big_ok (by omega) (by omega), ?_⟩) | (refine ⟨_, _, rfl, Bool.and_eq_true_iff.mpr ⟨big_ok (by omega) (by omega), big_ok (by omega) (by omega)⟩, ?_⟩) | (refine Q.truP ?_) | (refine Q.mbl ?_) | (refine Q.mtru ?_) | (refine Q.mnot ?_) | (refine Q.mor ?_) | (refine Q.mand ?_) | (refine ⟨by rfl, _, _, by rfl, ?_⟩) | (refine ⟨_, _, _, by rfl, by rfl, ?_⟩) | (refine ew_add ?_) | (refine ey_add ?_) | (refine ew_ii (by first | rfl | exact decide_eq_true (by omega) | exact cMul_l (by omega) (by omega) | exact cMul_r (by omega) (by omega)) ?_) | (refine ew_mul (by first | rfl | exact cMul_l (by omega) (by omega) | exact cMul_r (by omega) (by omega)) ?_) | (refine ey_ii (by first | rfl | exact decide_eq_true (by omega) | exact cMul_l (by omega) (by omega) | exact cMul_r (by omega) (by omega)) ?_) | (refine ey_mul (by first | rfl | exact cMul_l (by omega) (by omega) | exact cMul_r (by omega) (by omega)) ?_) | (refine ew_neg ?_) | (refine ey_neg ?_) | (refine ew_iB ?_) | (refine ey_iB ?_) | (refine ⟨_, by rfl, ?_⟩) | (refine ⟨(show List.length _ = _ from rfl), ?_⟩) | (simp only [wip, resto, List.getElem?_cons_zero, List.getElem?_cons_succ, Option.join_some, Option.join_none, Int.reduceToNat, seqK_nx, seqK_rt, turnK_nx, turnK_ct, maxI_eq, minI_eq, izs_len, fz_tup, fz_lst, fz_dic, fzs_eds, fzs_izs, fzs_nil, fzs_cons, takeArgs, refPos, refsOf, putBack, List.set_cons_zero, List.set_cons_succ, fz_int, fz_bl, fz_non])))
    have hc' : (decide ((hs.length : Int) = n) && hs.all fun h => decide (0 ≤ h) && decide (h < k)) = false := not_t hc
    exact ⟨by rw [hueB, hc']; rfl, trivial⟩
  · (repeat (first | (refine Q.seq ?_) | (refine Q.asg ?_) | (refine Q.ret ?_) | (refine Q.drop ?_) | (refine Q.nxt ?_) | (refine Q.setB rfl ?_) | (refine Q.val (by rfl) (by first | rfl | (simp only [cln_tup, cln_lst, clns_cons, clns_nil, clns_izs, clns_eds, cln_edge, cln_int, Bool.and_self, Bool.not_false, Bool.and_true, Bool.true_and]; first | done | fail)) ?_) | (refine Q.valv (by rfl) ?_) | (refine Q.takeI (by rfl) ?_) | (refine Q.consA ?_) | (refine Q.consO ?_) | (refine Q.nilO ?_) | (refine Q.nilP ?_) | (refine Q.tupM ?_) | (refine Q.lstM ?_) | (refine Q.dicE ?_) | (refine Q.call ?_) | (refine Q.refA (by rfl) ?_) | (refine Q.subI (by rfl) ?_) | (refine Q.valA ?_) | (refine Q.nilA ?_) | (refine Q.op2 ?_) | (refine Q.un ?_) | (refine Q.callA ?_) | (refine Q.callS ?_) | (refine Q.forS ?_) | (refine Q.iter ?_) | (refine Q.rng1 ?_) | (refine Q.rng2 ?_) | (refine Q.gtup rfl ?_) | (refine Q.gcons ?_) | (refine Q.gnil ?_) | (refine Q.put0 (by rfl) ?_) | (refine retK_rt (by rfl) ?_) | (refine ⟨Nat.le_of_ble_eq_true rfl, ?_⟩) | (refine ⟨_, rfl, big_ok (by omega) (by omega), ?_⟩) | (refine ⟨_, _, rfl, Bool.and_eq_true_iff.mpr ⟨big_ok (by omega) (by omega), big_ok (by omega) (by omega)⟩, ?_⟩) | (refine Q.truP ?_) | (refine Q.mbl ?_) | (refine Q.mtru ?_) | (refine Q.mnot ?_) | (refine Q.mor ?_) | (refine Q.mand ?_) | (refine ⟨by rfl, _, _, by rfl, ?_⟩) | (refine ⟨_, _, _, by rfl, by rfl, ?_⟩) | (refine ew_add ?_) | (refine ey_add ?_) | (refine ew_ii (by first | rfl | exact decide_eq_true (by omega) | exact cMul_l (by omega) (by omega) | exact cMul_r (by omega) (by omega)) ?_) | (refine ew_mul (by first | rfl | exact cMul_l (by omega) (by omega) | exact cMul_r (by omega) (by omega)) ?_) | (refine ey_ii (by first | rfl | exact decide_eq_true (by omega) | exact cMul_l (by omega) (by omega) | exact cMul_r (by omega) (by omega)) ?_) | (refine ey_mul (by first | rfl | exact cMul_l (by omega) (by omega) | exact cMul_r (by omega) (by omega)) ?_) | (refine ew_neg ?_) | (refine ey_neg ?_) | (refine ew_iB ?_) | (refine ey_iB ?_) | (refine ⟨_, by rfl, ?_⟩) | (refine ⟨(show List.length _ = _ from rfl), ?_⟩) | (simp only [wip, resto, List.getElem?_cons_zero, List.getElem?_cons_succ, Option.join_some, Option.join_none, Int.reduceToNat, seqK_nx, seqK_rt, turnK_nx, turnK_ct, maxI_eq, minI_eq, izs_len, fz_tup, fz_lst, fz_dic, fzs_eds, fzs_izs, fzs_nil, fzs_cons, takeArgs, refPos, refsOf, putBack, List.set_cons_zero, List.set_cons_succ, fz_int, fz_bl, fz_non])))
    rw [Bool.not_eq_false'] at hc
    have hlen := of_decide_eq_true (Bool.and_eq_true_iff.mp hc).1
    (refine Q.lcF ?_; (repeat (first | (refine Q.seq ?_) | (refine Q.asg ?_) | (refine Q.ret ?_) | (refine Q.drop ?_) | (refine Q.nxt ?_) | (refine Q.setB rfl ?_) | (refine Q.val (by rfl) (by first | rfl | (simp only [cln_tup, cln_lst, clns_cons, clns_nil, clns_izs, clns_eds, cln_edge, cln_int, Bool.and_self, Bool.not_false, Bool.and_true, Bool.true_and]; first | done | fail)) ?_) | (refine Q.valv (by rfl) ?_) | (refine Q.takeI (by rfl) ?_) | (refine Q.consA ?_) | (refine Q.consO ?_) | (refine Q.nilO ?_) | (refine Q.nilP ?_) | (refine Q.tupM ?_) | (refine Q.lstM ?_) | (refine Q.dicE ?_) | (refine Q.call ?_) | (refine Q.refA (by rfl) ?_) | (refine Q.subI (by rfl) ?_) | (refine Q.valA ?_) | (refine Q.nilA ?_) | (refine Q.op2 ?_) | (refine Q.un ?_) | (refine Q.callA ?_) | (refine Q.callS ?_) | (refine Q.forS ?_) | (refine Q.iter ?_) | (refine Q.rng1 ?_) | (refine Q.rng2 ?_) | (refine Q.gtup rfl ?_) | (refine Q.gcons ?_) | (refine Q.gnil ?_) | (refine Q.put0 (by rfl) ?_) | (refine retK_rt (by rfl) ?_) | (refine ⟨Nat.le_of_ble_eq_true rfl, ?_⟩) | (refine ⟨_, rfl, big_ok (by omega) (by omega), ?_⟩) | (refine ⟨_, _, rfl, Bool.and_eq_true_iff.mpr ⟨big_ok (by omega) (by omega), big_ok (by omega) (by omega)⟩, ?_⟩) | (refine Q.truP ?_) | (refine Q.mbl ?_) | (refine Q.mtru ?_) | (refine Q.mnot ?_) | (refine Q.mor ?_) | (refine Q.mand ?_) | (refine ⟨by rfl, _, _, by rfl, ?_⟩) | (refine ⟨_, _, _, by rfl, by rfl, ?_⟩) | (refine ew_add ?_) | (refine ey_add ?_) | (refine ew_ii (by first | rfl | exact decide_eq_true (by omega) | exact cMul_l (by omega) (by omega) | exact cMul_r (by omega) (by omega)) ?_) | (refine ew_mul (by first | rfl | exact cMul_l (by omega) (by omega) | exact cMul_r (by omega) (by omega)) ?_) | (refine ey_ii (by first | rfl | exact decide_eq_true (by omega) | exact cMul_l (by omega) (by omega) | exact cMul_r (by omega) (by omega)) ?_) | (refine ey_mul (by first | rfl | exact cMul_l (by omega) (by omega) | exact cMul_r (by omega) (by omega)) ?_) | (refine ew_neg ?_) | (refine ey_neg ?_) | (refine ew_iB ?_) | (refine ey_iB ?_) | (refine ⟨_, by rfl, ?_⟩) | (refine ⟨(show List.length _ = _ from rfl), ?_⟩) | (simp only [wip, resto, List.getElem?_cons_zero, List.getElem?_cons_succ, Option.join_some, Option.join_none, Int.reduceToNat, seqK_nx, seqK_rt, turnK_nx, turnK_ct, maxI_eq, minI_eq, izs_len, fz_tup, fz_lst, fz_dic, fzs_eds, fzs_izs, fzs_nil, fzs_cons, takeArgs, refPos, refsOf, putBack, List.set_cons_zero, List.set_cons_succ, fz_int, fz_bl, fz_non]))); refine ⟨by rfl, by ((try simp only [rngD_len, List.length_map]); have := Nat.le_of_ble_eq_true (show Nat.ble 10000000 sizeLine = true from rfl); omega), fun d => match d with | .tup [.int a, .int b] => .bl (!decide (hs.getD a.toNat 0 = hs.getD b.toNat 0)) | _ => .non, ?_, ?_⟩)
    · intro d hd
      obtain ⟨e, hm, rfl⟩ := List.mem_map.mp hd
      obtain ⟨h1, h2, h3⟩ := he e hm
      obtain ⟨x, x1, _, x2⟩ := atI_izs (xs := hs) (i := e.1) h1 (by omega)
      obtain ⟨y, y1, _, y2⟩ := atI_izs (xs := hs) (i := e.2) (by omega) (by omega)
      (repeat (first | (refine Q.seq ?_) | (refine Q.asg ?_) | (refine Q.ret ?_) | (refine Q.drop ?_) | (refine Q.nxt ?_) | (refine Q.setB rfl ?_) | (refine Q.val (by rfl) (by first | rfl | (simp only [cln_tup, cln_lst, clns_cons, clns_nil, clns_izs, clns_eds, cln_edge, cln_int, Bool.and_self, Bool.not_false, Bool.and_true, Bool.true_and]; first | done | fail)) ?_) | (refine Q.valv (by rfl) ?_) | (refine Q.takeI (by rfl) ?_) | (refine Q.consA ?_) | (refine Q.consO ?_) | (refine Q.nilO ?_) | (refine Q.nilP ?_) | (refine Q.tupM ?_) | (refine Q.lstM ?_) | (refine Q.dicE ?_) | (refine Q.call ?_) | (refine Q.refA (by rfl) ?_) | (refine Q.subI (by rfl) ?_) | (refine Q.valA ?_) | (refine Q.nilA ?_) | (refine Q.op2 ?_) | (refine Q.un ?_) | (refine Q.callA ?_) | (refine Q.callS ?_) | (refine Q.forS ?_) | (refine Q.iter ?_) | (refine Q.rng1 ?_) | (refine Q.rng2 ?_) | (refine Q.gtup rfl ?_) | (refine Q.gcons ?_) | (refine Q.gnil ?_) | (refine Q.put0 (by rfl) ?_) | (refine retK_rt (by rfl) ?_) | (refine ⟨Nat.le_of_ble_eq_true rfl, ?_⟩) | (refine ⟨_, rfl, big_ok (by omega) (by omega), ?_⟩) | (refine ⟨_, _, rfl, Bool.and_eq_true_iff.mpr ⟨big_ok (by omega) (by omega), big_ok (by omega) (by omega)⟩, ?_⟩) | (refine Q.truP ?_) | (refine Q.mbl ?_) | (refine Q.mtru ?_) | (refine Q.mnot ?_) | (refine Q.mor ?_) | (refine Q.mand ?_) | (refine ⟨by rfl, _, _, by rfl, ?_⟩) | (refine ⟨_, _, _, by rfl, by rfl, ?_⟩) | (refine ew_add ?_) | (refine ey_add ?_) | (refine ew_ii (by first | rfl | exact decide_eq_true (by omega) | exact cMul_l (by omega) (by omega) | exact cMul_r (by omega) (by omega)) ?_) | (refine ew_mul (by first | rfl | exact cMul_l (by omega) (by omega) | exact cMul_r (by omega) (by omega)) ?_) | (refine ey_ii (by first | rfl | exact decide_eq_true (by omega) | exact cMul_l (by omega) (by omega) | exact cMul_r (by omega) (by omega)) ?_) | (refine ey_mul (by first | rfl | exact cMul_l (by omega) (by omega) | exact cMul_r (by omega) (by omega)) ?_) | (refine ew_neg ?_) | (refine ey_neg ?_) | (refine ew_iB ?_) | (refine ey_iB ?_) | (refine ⟨_, by rfl, ?_⟩) | (refine ⟨(show List.length _ = _ from rfl), ?_⟩) | (simp only [wip, resto, List.getElem?_cons_zero, List.getElem?_cons_succ, Option.join_some, Option.join_none, Int.reduceToNat, seqK_nx, seqK_rt, turnK_nx, turnK_ct, maxI_eq, minI_eq, izs_len, fz_tup, fz_lst, fz_dic, fzs_eds, fzs_izs, fzs_nil, fzs_cons, takeArgs, refPos, refsOf, putBack, List.set_cons_zero, List.set_cons_succ, fz_int, fz_bl, fz_non])))
      refine Q.val (d := .bl (!decide (x = y))) (by (simp (disch := omega) only [Int.reduceToNat, atI_z, atI_1, atI_2, List.set_cons_zero, List.set_cons_succ, pOp2, pVar, pCst, pCall, pCons, pNil, pBl, pTru, pNotB, pAndB, pOrB, pAnd, pOr, pNot, pChain, pIf, pUn, pSnoc, iiI, iiB, subX, lenX, blX, truD, seqD, negX, intX, List.getElem?_cons_zero, List.getElem?_cons_succ, List.nil_append, List.cons_append, Int.reduceLT, Int.reduceLE, and_self, and_true, true_and, Bool.and_true, Bool.true_and, decide_eq_true_eq, if_true, if_pos, decide_true, Option.map_some, Bool.false_eq_true, if_false, maxX, minX, x2, y2, neX_int]) <;> rfl) (by rfl) ?_
      (repeat (first | (refine Q.seq ?_) | (refine Q.asg ?_) | (refine Q.ret ?_) | (refine Q.drop ?_) | (refine Q.nxt ?_) | (refine Q.setB rfl ?_) | (refine Q.val (by rfl) (by first | rfl | (simp only [cln_tup, cln_lst, clns_cons, clns_nil, clns_izs, clns_eds, cln_edge, cln_int, Bool.and_self, Bool.not_false, Bool.and_true, Bool.true_and]; first | done | fail)) ?_) | (refine Q.valv (by rfl) ?_) | (refine Q.takeI (by rfl) ?_) | (refine Q.consA ?_) | (refine Q.consO ?_) | (refine Q.nilO ?_) | (refine Q.nilP ?_) | (refine Q.tupM ?_) | (refine Q.lstM ?_) | (refine Q.dicE ?_) | (refine Q.call ?_) | (refine Q.refA (by rfl) ?_) | (refine Q.subI (by rfl) ?_) | (refine Q.valA ?_) | (refine Q.nilA ?_) | (refine Q.op2 ?_) | (refine Q.un ?_) | (refine Q.callA ?_) | (refine Q.callS ?_) | (refine Q.forS ?_) | (refine Q.iter ?_) | (refine Q.rng1 ?_) | (refine Q.rng2 ?_) | (refine Q.gtup rfl ?_) | (refine Q.gcons ?_) | (refine Q.gnil ?_) | (refine Q.put0 (by rfl) ?_) | (refine retK_rt (by rfl) ?_) | (refine ⟨Nat.le_of_ble_eq_true rfl, ?_⟩) | (refine ⟨_, rfl, big_ok (by omega) (by omega), ?_⟩) | (refine ⟨_, _, rfl, Bool.and_eq_true_iff.mpr ⟨big_ok (by omega) (by omega), big_ok (by omega) (by omega)⟩, ?_⟩) | (refine Q.truP ?_) | (refine Q.mbl ?_) | (refine Q.mtru ?_) | (refine Q.mnot ?_) | (refine Q.mor ?_) | (refine Q.mand ?_) | (refine ⟨by rfl, _, _, by rfl, ?_⟩) | (refine ⟨_, _, _, by rfl, by rfl, ?_⟩) | (refine ew_add ?_) | (refine ey_add ?_) | (refine ew_ii (by first | rfl | exact decide_eq_true (by omega) | exact cMul_l (by omega) (by omega) | exact cMul_r (by omega) (by omega)) ?_) | (refine ew_mul (by first | rfl | exact cMul_l (by omega) (by omega) | exact cMul_r (by omega) (by omega)) ?_) | (refine ey_ii (by first | rfl | exact decide_eq_true (by omega) | exact cMul_l (by omega) (by omega) | exact cMul_r (by omega) (by omega)) ?_) | (refine ey_mul (by first | rfl | exact cMul_l (by omega) (by omega) | exact cMul_r (by omega) (by omega)) ?_) | (refine ew_neg ?_) | (refine ey_neg ?_) | (refine ew_iB ?_) | (refine ey_iB ?_) | (refine ⟨_, by rfl, ?_⟩) | (refine ⟨(show List.length _ = _ from rfl), ?_⟩) | (simp only [wip, resto, List.getElem?_cons_zero, List.getElem?_cons_succ, Option.join_some, Option.join_none, Int.reduceToNat, seqK_nx, seqK_rt, turnK_nx, turnK_ct, maxI_eq, minI_eq, izs_len, fz_tup, fz_lst, fz_dic, fzs_eds, fzs_izs, fzs_nil, fzs_cons, takeArgs, refPos, refsOf, putBack, List.set_cons_zero, List.set_cons_succ, fz_int, fz_bl, fz_non])))
      exact ⟨by rw [getD_of x1, getD_of y1], trivial⟩
    · (repeat (first | (refine Q.seq ?_) | (refine Q.asg ?_) | (refine Q.ret ?_) | (refine Q.drop ?_) | (refine Q.nxt ?_) | (refine Q.setB rfl ?_) | (refine Q.val (by rfl) (by first | rfl | (simp only [cln_tup, cln_lst, clns_cons, clns_nil, clns_izs, clns_eds, cln_edge, cln_int, Bool.and_self, Bool.not_false, Bool.and_true, Bool.true_and]; first | done | fail)) ?_) | (refine Q.valv (by rfl) ?_) | (refine Q.takeI (by rfl) ?_) | (refine Q.consA ?_) | (refine Q.consO ?_) | (refine Q.nilO ?_) | (refine Q.nilP ?_) | (refine Q.tupM ?_) | (refine Q.lstM ?_) | (refine Q.dicE ?_) | (refine Q.call ?_) | (refine Q.refA (by rfl) ?_) | (refine Q.subI (by rfl) ?_) | (refine Q.valA ?_) | (refine Q.nilA ?_) | (refine Q.op2 ?_) | (refine Q.un ?_) | (refine Q.callA ?_) | (refine Q.callS ?_) | (refine Q.forS ?_) | (refine Q.iter ?_) | (refine Q.rng1 ?_) | (refine Q.rng2 ?_) | (refine Q.gtup rfl ?_) | (refine Q.gcons ?_) | (refine Q.gnil ?_) | (refine Q.put0 (by rfl) ?_) | (refine retK_rt (by rfl) ?_) | (refine ⟨Nat.le_of_ble_eq_true rfl, ?_⟩) | (refine ⟨_, rfl, big_ok (by omega) (by omega), ?_⟩) | (refine ⟨_, _, rfl, Bool.and_eq_true_iff.mpr ⟨big_ok (by omega) (by omega), big_ok (by omega) (by omega)⟩, ?_⟩) | (refine Q.truP ?_) | (refine Q.mbl ?_) | (refine Q.mtru ?_) | (refine Q.mnot ?_) | (refine Q.mor ?_) | (refine Q.mand ?_) | (refine ⟨by rfl, _, _, by rfl, ?_⟩) | (refine ⟨_, _, _, by rfl, by rfl, ?_⟩) | (refine ew_add ?_) | (refine ey_add ?_) | (refine ew_ii (by first | rfl | exact decide_eq_true (by omega) | exact cMul_l (by omega) (by omega) | exact cMul_r (by omega) (by omega)) ?_) | (refine ew_mul (by first | rfl | exact cMul_l (by omega) (by omega) | exact cMul_r (by omega) (by omega)) ?_) | (refine ey_ii (by first | rfl | exact decide_eq_true (by omega) | exact cMul_l (by omega) (by omega) | exact cMul_r (by omega) (by omega)) ?_) | (refine ey_mul (by first | rfl | exact cMul_l (by omega) (by omega) | exact cMul_r (by omega) (by omega)) ?_) | (refine ew_neg ?_) | (refine ey_neg ?_) | (refine ew_iB ?_) | (refine ey_iB ?_) | (refine ⟨_, by rfl, ?_⟩) | (refine ⟨(show List.length _ = _ from rfl), ?_⟩) | (simp only [wip, resto, List.getElem?_cons_zero, List.getElem?_cons_succ, Option.join_some, Option.join_none, Int.reduceToNat, seqK_nx, seqK_rt, turnK_nx, turnK_ct, maxI_eq, minI_eq, izs_len, fz_tup, fz_lst, fz_dic, fzs_eds, fzs_izs, fzs_nil, fzs_cons, takeArgs, refPos, refsOf, putBack, List.set_cons_zero, List.set_cons_succ, fz_int, fz_bl, fz_non])))
      rw [eds, List.map_map]
      refine ⟨_, all_blsF (f := fun e => !decide (hs.getD e.1.toNat 0 = hs.getD e.2.toNat 0)) fun e _ => rfl, rfl, ?_⟩
      (repeat (first | (refine Q.seq ?_) | (refine Q.asg ?_) | (refine Q.ret ?_) | (refine Q.drop ?_) | (refine Q.nxt ?_) | (refine Q.setB rfl ?_) | (refine Q.val (by rfl) (by first | rfl | (simp only [cln_tup, cln_lst, clns_cons, clns_nil, clns_izs, clns_eds, cln_edge, cln_int, Bool.and_self, Bool.not_false, Bool.and_true, Bool.true_and]; first | done | fail)) ?_) | (refine Q.valv (by rfl) ?_) | (refine Q.takeI (by rfl) ?_) | (refine Q.consA ?_) | (refine Q.consO ?_) | (refine Q.nilO ?_) | (refine Q.nilP ?_) | (refine Q.tupM ?_) | (refine Q.lstM ?_) | (refine Q.dicE ?_) | (refine Q.call ?_) | (refine Q.refA (by rfl) ?_) | (refine Q.subI (by rfl) ?_) | (refine Q.valA ?_) | (refine Q.nilA ?_) | (refine Q.op2 ?_) | (refine Q.un ?_) | (refine Q.callA ?_) | (refine Q.callS ?_) | (refine Q.forS ?_) | (refine Q.iter ?_) | (refine Q.rng1 ?_) | (refine Q.rng2 ?_) | (refine Q.gtup rfl ?_) | (refine Q.gcons ?_) | (refine Q.gnil ?_) | (refine Q.put0 (by rfl) ?_) | (refine retK_rt (by rfl) ?_) | (refine ⟨Nat.le_of_ble_eq_true rfl, ?_⟩) | (refine ⟨_, rfl, big_ok (by omega) (by omega), ?_⟩) | (refine ⟨_, _, rfl, Bool.and_eq_true_iff.mpr ⟨big_ok (by omega) (by omega), big_ok (by omega) (by omega)⟩, ?_⟩) | (refine Q.truP ?_) | (refine Q.mbl ?_) | (refine Q.mtru ?_) | (refine Q.mnot ?_) | (refine Q.mor ?_) | (refine Q.mand ?_) | (refine ⟨by rfl, _, _, by rfl, ?_⟩) | (refine ⟨_, _, _, by rfl, by rfl, ?_⟩) | (refine ew_add ?_) | (refine ey_add ?_) | (refine ew_ii (by first | rfl | exact decide_eq_true (by omega) | exact cMul_l (by omega) (by omega) | exact cMul_r (by omega) (by omega)) ?_) | (refine ew_mul (by first | rfl | exact cMul_l (by omega) (by omega) | exact cMul_r (by omega) (by omega)) ?_) | (refine ey_ii (by first | rfl | exact decide_eq_true (by omega) | exact cMul_l (by omega) (by omega) | exact cMul_r (by omega) (by omega)) ?_) | (refine ey_mul (by first | rfl | exact cMul_l (by omega) (by omega) | exact cMul_r (by omega) (by omega)) ?_) | (refine ew_neg ?_) | (refine ey_neg ?_) | (refine ew_iB ?_) | (refine ey_iB ?_) | (refine ⟨_, by rfl, ?_⟩) | (refine ⟨(show List.length _ = _ from rfl), ?_⟩) | (simp only [wip, resto, List.getElem?_cons_zero, List.getElem?_cons_succ, Option.join_some, Option.join_none, Int.reduceToNat, seqK_nx, seqK_rt, turnK_nx, turnK_ct, maxI_eq, minI_eq, izs_len, fz_tup, fz_lst, fz_dic, fzs_eds, fzs_izs, fzs_nil, fzs_cons, takeArgs, refPos, refsOf, putBack, List.set_cons_zero, List.set_cons_succ, fz_int, fz_bl, fz_non])))
      exact ⟨by rw [hueB, hc, Bool.true_and], trivial⟩
theorem is_hueing_ok {n k : Int} {es : List (Int × Int)} {hs : List Int} (he : ∀ e ∈ es, 0 ≤ e.1 ∧ e.1 < e.2 ∧ e.2 < n) (hl : es.length ≤ 100000) (hl2 : hs.length ≤ 100000) : Ret (is_hueingF [webD n es, .int k, .tup (izs hs)]) fun r os => r = .bl (hueB n es k hs) ∧ os = [] := by
  refine Q.start (by (simp only [entry, List.map_cons, List.map_nil, List.length_cons, List.length_nil, List.replicate, List.cons_append, List.nil_append, Nat.reduceAdd, Nat.reduceSub]) <;> rfl) ?_
  unfold is_hueingB
  (repeat (first | (refine Q.seq ?_) | (refine Q.asg ?_) | (refine Q.ret ?_) | (refine Q.drop ?_) | (refine Q.nxt ?_) | (refine Q.setB rfl ?_) | (refine Q.val (by rfl) (by first | rfl | (simp only [cln_tup, cln_lst, clns_cons, clns_nil, clns_izs, clns_eds, cln_edge, cln_int, Bool.and_self, Bool.not_false, Bool.and_true, Bool.true_and]; first | done | fail)) ?_) | (refine Q.valv (by rfl) ?_) | (refine Q.takeI (by rfl) ?_) | (refine Q.consA ?_) | (refine Q.consO ?_) | (refine Q.nilO ?_) | (refine Q.nilP ?_) | (refine Q.tupM ?_) | (refine Q.lstM ?_) | (refine Q.dicE ?_) | (refine Q.call ?_) | (refine Q.refA (by rfl) ?_) | (refine Q.subI (by rfl) ?_) | (refine Q.valA ?_) | (refine Q.nilA ?_) | (refine Q.op2 ?_) | (refine Q.un ?_) | (refine Q.callA ?_) | (refine Q.callS ?_) | (refine Q.forS ?_) | (refine Q.iter ?_) | (refine Q.rng1 ?_) | (refine Q.rng2 ?_) | (refine Q.gtup rfl ?_) | (refine Q.gcons ?_) | (refine Q.gnil ?_) | (refine Q.put0 (by rfl) ?_) | (refine retK_rt (by rfl) ?_) | (refine ⟨Nat.le_of_ble_eq_true rfl, ?_⟩) | (refine ⟨_, rfl, big_ok (by omega) (by omega), ?_⟩) | (refine ⟨_, _, rfl, Bool.and_eq_true_iff.mpr ⟨big_ok (by omega) (by omega), big_ok (by omega) (by omega)⟩, ?_⟩) | (refine Q.truP ?_) | (refine Q.mbl ?_) | (refine Q.mtru ?_) | (refine Q.mnot ?_) | (refine Q.mor ?_) | (refine Q.mand ?_) | (refine ⟨by rfl, _, _, by rfl, ?_⟩) | (refine ⟨_, _, _, by rfl, by rfl, ?_⟩) | (refine ew_add ?_) | (refine ey_add ?_) | (refine ew_ii (by first | rfl | exact decide_eq_true (by omega) | exact cMul_l (by omega) (by omega) | exact cMul_r (by omega) (by omega)) ?_) | (refine ew_mul (by first | rfl | exact cMul_l (by omega) (by omega) | exact cMul_r (by omega) (by omega)) ?_) | (refine ey_ii (by first | rfl | exact decide_eq_true (by omega) | exact cMul_l (by omega) (by omega) | exact cMul_r (by omega) (by omega)) ?_) | (refine ey_mul (by first | rfl | exact cMul_l (by omega) (by omega) | exact cMul_r (by omega) (by omega)) ?_) | (refine ew_neg ?_) | (refine ey_neg ?_) | (refine ew_iB ?_) | (refine ey_iB ?_) | (refine ⟨_, by rfl, ?_⟩) | (refine ⟨(show List.length _ = _ from rfl), ?_⟩) | (simp only [wip, resto, List.getElem?_cons_zero, List.getElem?_cons_succ, Option.join_some, Option.join_none, Int.reduceToNat, seqK_nx, seqK_rt, turnK_nx, turnK_ct, maxI_eq, minI_eq, izs_len, fz_tup, fz_lst, fz_dic, fzs_eds, fzs_izs, fzs_nil, fzs_cons, takeArgs, refPos, refsOf, putBack, List.set_cons_zero, List.set_cons_succ, fz_int, fz_bl, fz_non])))
  refine Q.ifC (!(decide ((hs.length : Int) = n) && hs.all fun h => decide (0 ≤ h) && decide (h < k))) [some (webD n es), some (.int k), some (.tup (izs hs)), none, none, none] ?_ (fun hc => ?_) (fun hc => ?_)
  · (repeat (first | (refine Q.seq ?_) | (refine Q.asg ?_) | (refine Q.ret ?_) | (refine Q.drop ?_) | (refine Q.nxt ?_) | (refine Q.setB rfl ?_) | (refine Q.val (by rfl) (by first | rfl | (simp only [cln_tup, cln_lst, clns_cons, clns_nil, clns_izs, clns_eds, cln_edge, cln_int, Bool.and_self, Bool.not_false, Bool.and_true, Bool.true_and]; first | done | fail)) ?_) | (refine Q.valv (by rfl) ?_) | (refine Q.takeI (by rfl) ?_) | (refine Q.consA ?_) | (refine Q.consO ?_) | (refine Q.nilO ?_) | (refine Q.nilP ?_) | (refine Q.tupM ?_) | (refine Q.lstM ?_) | (refine Q.dicE ?_) | (refine Q.call ?_) | (refine Q.refA (by rfl) ?_) | (refine Q.subI (by rfl) ?_) | (refine Q.valA ?_) | (refine Q.nilA ?_) | (refine Q.op2 ?_) | (refine Q.un ?_) | (refine Q.callA ?_) | (refine Q.callS ?_) | (refine Q.forS ?_) | (refine Q.iter ?_) | (refine Q.rng1 ?_) | (refine Q.rng2 ?_) | (refine Q.gtup rfl ?_) | (refine Q.gcons ?_) | (refine Q.gnil ?_) | (refine Q.put0 (by rfl) ?_) | (refine retK_rt (by rfl) ?_) | (refine ⟨Nat.le_of_ble_eq_true rfl, ?_⟩) | (refine ⟨_, rfl, big_ok (by omega) (by omega), ?_⟩) | (refine ⟨_, _, rfl, Bool.and_eq_true_iff.mpr ⟨big_ok (by omega) (by omega), big_ok (by omega) (by omega)⟩, ?_⟩) | (refine Q.truP ?_) | (refine Q.mbl ?_) | (refine Q.mtru ?_) | (refine Q.mnot ?_) | (refine Q.mor ?_) | (refine Q.mand ?_) | (refine ⟨by rfl, _, _, by rfl, ?_⟩) | (refine ⟨_, _, _, by rfl, by rfl, ?_⟩) | (refine ew_add ?_) | (refine ey_add ?_) | (refine ew_ii (by first | rfl | exact decide_eq_true (by omega) | exact cMul_l (by omega) (by omega) | exact cMul_r (by omega) (by omega)) ?_) | (refine ew_mul (by first | rfl | exact cMul_l (by omega) (by omega) | exact cMul_r (by omega) (by omega)) ?_) | (refine ey_ii (by first | rfl | exact decide_eq_true (by omega) | exact cMul_l (by omega) (by omega) | exact cMul_r (by omega) (by omega)) ?_) | (refine ey_mul (by first | rfl | exact cMul_l (by omega) (by omega) | exact cMul_r (by omega) (by omega)) ?_) | (refine ew_neg ?_) | (refine ey_neg ?_) | (refine ew_iB ?_) | (refine ey_iB ?_) | (refine ⟨_, by rfl, ?_⟩) | (refine ⟨(show List.length _ = _ from rfl), ?_⟩) | (simp only [wip, resto, List.getElem?_cons_zero, List.getElem?_cons_succ, Option.join_some, Option.join_none, Int.reduceToNat, seqK_nx, seqK_rt, turnK_nx, turnK_ct, maxI_eq, minI_eq, izs_len, fz_tup, fz_lst, fz_dic, fzs_eds, fzs_izs, fzs_nil, fzs_cons, takeArgs, refPos, refsOf, putBack, List.set_cons_zero, List.set_cons_succ, fz_int, fz_bl, fz_non])))
    refine Q.tst (c := !decide ((hs.length : Int) = n)) (by (simp (disch := omega) only [Int.reduceToNat, atI_z, atI_1, atI_2, List.set_cons_zero, List.set_cons_succ, pOp2, pVar, pCst, pCall, pCons, pNil, pBl, pTru, pNotB, pAndB, pOrB, pAnd, pOr, pNot, pChain, pIf, pUn, pSnoc, iiI, iiB, subX, lenX, blX, truD, seqD, negX, intX, List.getElem?_cons_zero, List.getElem?_cons_succ, List.nil_append, List.cons_append, Int.reduceLT, Int.reduceLE, and_self, and_true, true_and, Bool.and_true, Bool.true_and, decide_eq_true_eq, if_true, if_pos, decide_true, Option.map_some, Bool.false_eq_true, if_false, maxX, minX, neX_int, List.length_map]) <;> rfl) ?_
    cases hd : decide ((hs.length : Int) = n) with
    | false => exact ⟨rfl, rfl⟩
    | true =>
      rw [Bool.not_true, if_neg Bool.false_ne_true]
      (repeat (first | (refine Q.seq ?_) | (refine Q.asg ?_) | (refine Q.ret ?_) | (refine Q.drop ?_) | (refine Q.nxt ?_) | (refine Q.setB rfl ?_) | (refine Q.val (by rfl) (by first | rfl | (simp only [cln_tup, cln_lst, clns_cons, clns_nil, clns_izs, clns_eds, cln_edge, cln_int, Bool.and_self, Bool.not_false, Bool.and_true, Bool.true_and]; first | done | fail)) ?_) | (refine Q.valv (by rfl) ?_) | (refine Q.takeI (by rfl) ?_) | (refine Q.consA ?_) | (refine Q.consO ?_) | (refine Q.nilO ?_) | (refine Q.nilP ?_) | (refine Q.tupM ?_) | (refine Q.lstM ?_) | (refine Q.dicE ?_) | (refine Q.call ?_) | (refine Q.refA (by rfl) ?_) | (refine Q.subI (by rfl) ?_) | (refine Q.valA ?_) | (refine Q.nilA ?_) | (refine Q.op2 ?_) | (refine Q.un ?_) | (refine Q.callA ?_) | (refine Q.callS ?_) | (refine Q.forS ?_) | (refine Q.iter ?_) | (refine Q.rng1 ?_) | (refine Q.rng2 ?_) | (refine Q.gtup rfl ?_) | (refine Q.gcons ?_) | (refine Q.gnil ?_) | (refine Q.put0 (by rfl) ?_) | (refine retK_rt (by rfl) ?_) | (refine ⟨Nat.le_of_ble_eq_true rfl, ?_⟩) | (refine ⟨_, rfl, big_ok (by omega) (by omega), ?_⟩) | (refine ⟨_, _, rfl, Bool.and_eq_true_iff.mpr ⟨big_ok (by omega) (by omega), big_ok (by omega) (by omega)⟩, ?_⟩) | (refine Q.truP ?_) | (refine Q.mbl ?_) | (refine Q.mtru ?_) | (refine Q.mnot ?_) | (refine Q.mor ?_) | (refine Q.mand ?_) | (refine ⟨by rfl, _, _, by rfl, ?_⟩) | (refine ⟨_, _, _, by rfl, by rfl, ?_⟩) | (refine ew_add ?_) | (refine ey_add ?_) | (refine ew_ii (by first | rfl | exact decide_eq_true (by omega) | exact cMul_l (by omega) (by omega) | exact cMul_r (by omega) (by omega)) ?_) | (refine ew_mul (by first | rfl | exact cMul_l (by omega) (by omega) | exact cMul_r (by omega) (by omega)) ?_) | (refine ey_ii (by first | rfl | exact decide_eq_true (by omega) | exact cMul_l (by omega) (by omega) | exact cMul_r (by omega) (by omega)) ?_) | (refine ey_mul (by first | rfl | exact cMul_l (by omega) (by omega) | exact cMul_r (by omega) (by omega)) ?_) | (refine ew_neg ?_) | (refine ey_neg ?_) | (refine ew_iB ?_) | (refine ey_iB ?_) | (refine ⟨_, by rfl, ?_⟩) | (refine ⟨(show List.length _ = _ from rfl), ?_⟩) | (simp only [wip, resto, List.getElem?_cons_zero, List.getElem?_cons_succ, Option.join_some, Option.join_none, Int.reduceToNat, seqK_nx, seqK_rt, turnK_nx, turnK_ct, maxI_eq, minI_eq, izs_len, fz_tup, fz_lst, fz_dic, fzs_eds, fzs_izs, fzs_nil, fzs_cons, takeArgs, refPos, refsOf, putBack, List.set_cons_zero, List.set_cons_succ, fz_int, fz_bl, fz_non])))
      (refine Q.lcF ?_; (repeat (first | (refine Q.seq ?_) | (refine Q.asg ?_) | (refine Q.ret ?_) | (refine Q.drop ?_) | (refine Q.nxt ?_) | (refine Q.setB rfl ?_) | (refine Q.val (by rfl) (by first | rfl | (simp only [cln_tup, cln_lst, clns_cons, clns_nil, clns_izs, clns_eds, cln_edge, cln_int, Bool.and_self, Bool.not_false, Bool.and_true, Bool.true_and]; first | done | fail)) ?_) | (refine Q.valv (by rfl) ?_) | (refine Q.takeI (by rfl) ?_) | (refine Q.consA ?_) | (refine Q.consO ?_) | (refine Q.nilO ?_) | (refine Q.nilP ?_) | (refine Q.tupM ?_) | (refine Q.lstM ?_) | (refine Q.dicE ?_) | (refine Q.call ?_) | (refine Q.refA (by rfl) ?_) | (refine Q.subI (by rfl) ?_) | (refine Q.valA ?_) | (refine Q.nilA ?_) | (refine Q.op2 ?_) | (refine Q.un ?_) | (refine Q.callA ?_) | (refine Q.callS ?_) | (refine Q.forS ?_) | (refine Q.iter ?_) | (refine Q.rng1 ?_) | (refine Q.rng2 ?_) | (refine Q.gtup rfl ?_) | (refine Q.gcons ?_) | (refine Q.gnil ?_) | (refine Q.put0 (by rfl) ?_) | (refine retK_rt (by rfl) ?_) | (refine ⟨Nat.le_of_ble_eq_true rfl, ?_⟩) | (refine ⟨_, rfl, big_ok (by omega) (by omega), ?_⟩) | (refine ⟨_, _, rfl, Bool.and_eq_true_iff.mpr ⟨big_ok (by omega) (by omega), big_ok (by omega) (by omega)⟩, ?_⟩) | (refine Q.truP ?_) | (refine Q.mbl ?_) | (refine Q.mtru ?_) | (refine Q.mnot ?_) | (refine Q.mor ?_) | (refine Q.mand ?_) | (refine ⟨by rfl, _, _, by rfl, ?_⟩) | (refine ⟨_, _, _, by rfl, by rfl, ?_⟩) | (refine ew_add ?_) | (refine ey_add ?_) | (refine ew_ii (by first | rfl | exact decide_eq_true (by omega) | exact cMul_l (by omega) (by omega) | exact cMul_r (by omega) (by omega)) ?_) | (refine ew_mul (by first | rfl | exact cMul_l (by omega) (by omega) | exact cMul_r (by omega) (by omega)) ?_) | (refine ey_ii (by first | rfl | exact decide_eq_true (by omega) | exact cMul_l (by omega) (by omega) | exact cMul_r (by omega) (by omega)) ?_) | (refine ey_mul (by first | rfl | exact cMul_l (by omega) (by omega) | exact cMul_r (by omega) (by omega)) ?_) | (refine ew_neg ?_) | (refine ey_neg ?_) | (refine ew_iB ?_) | (refine ey_iB ?_) | (refine ⟨_, by rfl, ?_⟩) | (refine ⟨(show List.length _ = _ from rfl), ?_⟩) | (simp only [wip, resto, List.getElem?_cons_zero, List.getElem?_cons_succ, Option.join_some, Option.join_none, Int.reduceToNat, seqK_nx, seqK_rt, turnK_nx, turnK_ct, maxI_eq, minI_eq, izs_len, fz_tup, fz_lst, fz_dic, fzs_eds, fzs_izs, fzs_nil, fzs_cons, takeArgs, refPos, refsOf, putBack, List.set_cons_zero, List.set_cons_succ, fz_int, fz_bl, fz_non]))); refine ⟨by rfl, by ((try simp only [rngD_len, List.length_map]); have := Nat.le_of_ble_eq_true (show Nat.ble 10000000 sizeLine = true from rfl); omega), fun d => match d with | .int h => .bl (decide (0 ≤ h) && decide (h < k)) | _ => .non, ?_, ?_⟩)
      · intro d hd
        obtain ⟨h, hm, rfl⟩ := List.mem_map.mp hd
        (repeat (first | (refine Q.seq ?_) | (refine Q.asg ?_) | (refine Q.ret ?_) | (refine Q.drop ?_) | (refine Q.nxt ?_) | (refine Q.setB rfl ?_) | (refine Q.val (by rfl) (by first | rfl | (simp only [cln_tup, cln_lst, clns_cons, clns_nil, clns_izs, clns_eds, cln_edge, cln_int, Bool.and_self, Bool.not_false, Bool.and_true, Bool.true_and]; first | done | fail)) ?_) | (refine Q.valv (by rfl) ?_) | (refine Q.takeI (by rfl) ?_) | (refine Q.consA ?_) | (refine Q.consO ?_) | (refine Q.nilO ?_) | (refine Q.nilP ?_) | (refine Q.tupM ?_) | (refine Q.lstM ?_) | (refine Q.dicE ?_) | (refine Q.call ?_) | (refine Q.refA (by rfl) ?_) | (refine Q.subI (by rfl) ?_) | (refine Q.valA ?_) | (refine Q.nilA ?_) | (refine Q.op2 ?_) | (refine Q.un ?_) | (refine Q.callA ?_) | (refine Q.callS ?_) | (refine Q.forS ?_) | (refine Q.iter ?_) | (refine Q.rng1 ?_) | (refine Q.rng2 ?_) | (refine Q.gtup rfl ?_) | (refine Q.gcons ?_) | (refine Q.gnil ?_) | (refine Q.put0 (by rfl) ?_) | (refine retK_rt (by rfl) ?_) | (refine ⟨Nat.le_of_ble_eq_true rfl, ?_⟩) | (refine ⟨_, rfl, big_ok (by omega) (by omega), ?_⟩) | (refine ⟨_, _, rfl, Bool.and_eq_true_iff.mpr ⟨big_ok (by omega) (by omega), big_ok (by omega) (by omega)⟩, ?_⟩) | (refine Q.truP ?_) | (refine Q.mbl ?_) | (refine Q.mtru ?_) | (refine Q.mnot ?_) | (refine Q.mor ?_) | (refine Q.mand ?_) | (refine ⟨by rfl, _, _, by rfl, ?_⟩) | (refine ⟨_, _, _, by rfl, by rfl, ?_⟩) | (refine ew_add ?_) | (refine ey_add ?_) | (refine ew_ii (by first | rfl | exact decide_eq_true (by omega) | exact cMul_l (by omega) (by omega) | exact cMul_r (by omega) (by omega)) ?_) | (refine ew_mul (by first | rfl | exact cMul_l (by omega) (by omega) | exact cMul_r (by omega) (by omega)) ?_) | (refine ey_ii (by first | rfl | exact decide_eq_true (by omega) | exact cMul_l (by omega) (by omega) | exact cMul_r (by omega) (by omega)) ?_) | (refine ey_mul (by first | rfl | exact cMul_l (by omega) (by omega) | exact cMul_r (by omega) (by omega)) ?_) | (refine ew_neg ?_) | (refine ey_neg ?_) | (refine ew_iB ?_) | (refine ey_iB ?_) | (refine ⟨_, by rfl, ?_⟩) | (refine ⟨(show List.length _ = _ from rfl), ?_⟩) | (simp only [wip, resto, List.getElem?_cons_zero, List.getElem?_cons_succ, Option.join_some, Option.join_none, Int.reduceToNat, seqK_nx, seqK_rt, turnK_nx, turnK_ct, maxI_eq, minI_eq, izs_len, fz_tup, fz_lst, fz_dic, fzs_eds, fzs_izs, fzs_nil, fzs_cons, takeArgs, refPos, refsOf, putBack, List.set_cons_zero, List.set_cons_succ, fz_int, fz_bl, fz_non])))
        refine Q.val (ev_chain (by rfl) (by rfl) (by rfl)) (by rfl) ?_
        (repeat (first | (refine Q.seq ?_) | (refine Q.asg ?_) | (refine Q.ret ?_) | (refine Q.drop ?_) | (refine Q.nxt ?_) | (refine Q.setB rfl ?_) | (refine Q.val (by rfl) (by first | rfl | (simp only [cln_tup, cln_lst, clns_cons, clns_nil, clns_izs, clns_eds, cln_edge, cln_int, Bool.and_self, Bool.not_false, Bool.and_true, Bool.true_and]; first | done | fail)) ?_) | (refine Q.valv (by rfl) ?_) | (refine Q.takeI (by rfl) ?_) | (refine Q.consA ?_) | (refine Q.consO ?_) | (refine Q.nilO ?_) | (refine Q.nilP ?_) | (refine Q.tupM ?_) | (refine Q.lstM ?_) | (refine Q.dicE ?_) | (refine Q.call ?_) | (refine Q.refA (by rfl) ?_) | (refine Q.subI (by rfl) ?_) | (refine Q.valA ?_) | (refine Q.nilA ?_) | (refine Q.op2 ?_) | (refine Q.un ?_) | (refine Q.callA ?_) | (refine Q.callS ?_) | (refine Q.forS ?_) | (refine Q.iter ?_) | (refine Q.rng1 ?_) | (refine Q.rng2 ?_) | (refine Q.gtup rfl ?_) | (refine Q.gcons ?_) | (refine Q.gnil ?_) | (refine Q.put0 (by rfl) ?_) | (refine retK_rt (by rfl) ?_) | (refine ⟨Nat.le_of_ble_eq_true rfl, ?_⟩) | (refine ⟨_, rfl, big_ok (by omega) (by omega), ?_⟩) | (refine ⟨_, _, rfl, Bool.and_eq_true_iff.mpr ⟨big_ok (by omega) (by omega), big_ok (by omega) (by omega)⟩, ?_⟩) | (refine Q.truP ?_) | (refine Q.mbl ?_) | (refine Q.mtru ?_) | (refine Q.mnot ?_) | (refine Q.mor ?_) | (refine Q.mand ?_) | (refine ⟨by rfl, _, _, by rfl, ?_⟩) | (refine ⟨_, _, _, by rfl, by rfl, ?_⟩) | (refine ew_add ?_) | (refine ey_add ?_) | (refine ew_ii (by first | rfl | exact decide_eq_true (by omega) | exact cMul_l (by omega) (by omega) | exact cMul_r (by omega) (by omega)) ?_) | (refine ew_mul (by first | rfl | exact cMul_l (by omega) (by omega) | exact cMul_r (by omega) (by omega)) ?_) | (refine ey_ii (by first | rfl | exact decide_eq_true (by omega) | exact cMul_l (by omega) (by omega) | exact cMul_r (by omega) (by omega)) ?_) | (refine ey_mul (by first | rfl | exact cMul_l (by omega) (by omega) | exact cMul_r (by omega) (by omega)) ?_) | (refine ew_neg ?_) | (refine ey_neg ?_) | (refine ew_iB ?_) | (refine ey_iB ?_) | (refine ⟨_, by rfl, ?_⟩) | (refine ⟨(show List.length _ = _ from rfl), ?_⟩) | (simp only [wip, resto, List.getElem?_cons_zero, List.getElem?_cons_succ, Option.join_some, Option.join_none, Int.reduceToNat, seqK_nx, seqK_rt, turnK_nx, turnK_ct, maxI_eq, minI_eq, izs_len, fz_tup, fz_lst, fz_dic, fzs_eds, fzs_izs, fzs_nil, fzs_cons, takeArgs, refPos, refsOf, putBack, List.set_cons_zero, List.set_cons_succ, fz_int, fz_bl, fz_non])))
        exact ⟨trivial, trivial⟩
      · (repeat (first | (refine Q.seq ?_) | (refine Q.asg ?_) | (refine Q.ret ?_) | (refine Q.drop ?_) | (refine Q.nxt ?_) | (refine Q.setB rfl ?_) | (refine Q.val (by rfl) (by first | rfl | (simp only [cln_tup, cln_lst, clns_cons, clns_nil, clns_izs, clns_eds, cln_edge, cln_int, Bool.and_self, Bool.not_false, Bool.and_true, Bool.true_and]; first | done | fail)) ?_) | (refine Q.valv (by rfl) ?_) | (refine Q.takeI (by rfl) ?_) | (refine Q.consA ?_) | (refine Q.consO ?_) | (refine Q.nilO ?_) | (refine Q.nilP ?_) | (refine Q.tupM ?_) | (refine Q.lstM ?_) | (refine Q.dicE ?_) | (refine Q.call ?_) | (refine Q.refA (by rfl) ?_) | (refine Q.subI (by rfl) ?_) | (refine Q.valA ?_) | (refine Q.nilA ?_) | (refine Q.op2 ?_) | (refine Q.un ?_) | (refine Q.callA ?_) | (refine Q.callS ?_) | (refine Q.forS ?_) | (refine Q.iter ?_) | (refine Q.rng1 ?_) | (refine Q.rng2 ?_) | (refine Q.gtup rfl ?_) | (refine Q.gcons ?_) | (refine Q.gnil ?_) | (refine Q.put0 (by rfl) ?_) | (refine retK_rt (by rfl) ?_) | (refine ⟨Nat.le_of_ble_eq_true rfl, ?_⟩) | (refine ⟨_, rfl, big_ok (by omega) (by omega), ?_⟩) | (refine ⟨_, _, rfl, Bool.and_eq_true_iff.mpr ⟨big_ok (by omega) (by omega), big_ok (by omega) (by omega)⟩, ?_⟩) | (refine Q.truP ?_) | (refine Q.mbl ?_) | (refine Q.mtru ?_) | (refine Q.mnot ?_) | (refine Q.mor ?_) | (refine Q.mand ?_) | (refine ⟨by rfl, _, _, by rfl, ?_⟩) | (refine ⟨_, _, _, by rfl, by rfl, ?_⟩) | (refine ew_add ?_) | (refine ey_add ?_) | (refine ew_ii (by first | rfl | exact decide_eq_true (by omega) | exact cMul_l (by omega) (by omega) | exact cMul_r (by omega) (by omega)) ?_) | (refine ew_mul (by first | rfl | exact cMul_l (by omega) (by omega) | exact cMul_r (by omega) (by omega)) ?_) | (refine ey_ii (by first | rfl | exact decide_eq_true (by omega) | exact cMul_l (by omega) (by omega) | exact cMul_r (by omega) (by omega)) ?_) | (refine ey_mul (by first | rfl | exact cMul_l (by omega) (by omega) | exact cMul_r (by omega) (by omega)) ?_) | (refine ew_neg ?_) | (refine ey_neg ?_) | (refine ew_iB ?_) | (refine ey_iB ?_) | (refine ⟨_, by rfl, ?_⟩) | (refine ⟨(show List.length _ = _ from rfl), ?_⟩) | (simp only [wip, resto, List.getElem?_cons_zero, List.getElem?_cons_succ, Option.join_some, Option.join_none, Int.reduceToNat, seqK_nx, seqK_rt, turnK_nx, turnK_ct, maxI_eq, minI_eq, izs_len, fz_tup, fz_lst, fz_dic, fzs_eds, fzs_izs, fzs_nil, fzs_cons, takeArgs, refPos, refsOf, putBack, List.set_cons_zero, List.set_cons_succ, fz_int, fz_bl, fz_non])))
        rw [izs, List.map_map]
        refine ⟨_, all_blsF (f := fun h => decide (0 ≤ h) && decide (h < k)) fun h _ => rfl, rfl, _, rfl, by rw [Bool.true_and], trivial⟩
  · (repeat (first | (refine Q.seq ?_) | (refine Q.asg ?_) | (refine Q.ret ?_) | (refine Q.drop ?_) | (refine Q.nxt ?_) | (refine Q.setB rfl ?_) | (refine Q.val (by rfl) (by first | rfl | (simp only [cln_tup, cln_lst, clns_cons, clns_nil, clns_izs, clns_eds, cln_edge, cln_int, Bool.and_self, Bool.not_false, Bool.and_true, Bool.true_and]; first | done | fail)) ?_) | (refine Q.valv (by rfl) ?_) | (refine Q.takeI (by rfl) ?_) | (refine Q.consA ?_) | (refine Q.consO ?_) | (refine Q.nilO ?_) | (refine Q.nilP ?_) | (refine Q.tupM ?_) | (refine Q.lstM ?_) | (refine Q.dicE ?_) | (refine Q.call ?_) | (refine Q.refA (by rfl) ?_) | (refine Q.subI (by rfl) ?_) | (refine Q.valA ?_) | (refine Q.nilA ?_) | (refine Q.op2 ?_) | (refine Q.un ?_) | (refine Q.callA ?_) | (refine Q.callS ?_) | (refine Q.forS ?_) | (refine Q.iter ?_) | (refine Q.rng1 ?_) | (refine Q.rng2 ?_) | (refine Q.gtup rfl ?_) | (refine Q.gcons ?_) | (refine Q.gnil ?_) | (refine Q.put0 (by rfl) ?_) | (refine retK_rt (by rfl) ?_) | (refine ⟨Nat.le_of_ble_eq_true rfl, ?_⟩) | (refine ⟨_, rfl, big_ok (by omega) (by omega), ?_⟩) | (refine ⟨_, _, rfl, Bool.and_eq_true_iff.mpr ⟨big_ok (by omega) (by omega), big_ok (by omega) (by omega)⟩, ?_⟩) | (refine Q.truP ?_) | (refine Q.mbl ?_) | (refine Q.mtru ?_) | (refine Q.mnot ?_) | (refine Q.mor ?_) | (refine Q.mand ?_) | (refine ⟨by rfl, _, _, by rfl, ?_⟩) | (refine ⟨_, _, _, by rfl, by rfl, ?_⟩) | (refine ew_add ?_) | (refine ey_add ?_) | (refine ew_ii (by first | rfl | exact decide_eq_true (by omega) | exact cMul_l (by omega) (by omega) | exact cMul_r (by omega) (by omega)) ?_) | (refine ew_mul (by first | rfl | exact cMul_l (by omega) (by omega) | exact cMul_r (by omega) (by omega)) ?_) | (refine ey_ii (by first | rfl | exact decide_eq_true (by omega) | exact cMul_l (by omega) (by omega) | exact cMul_r (by omega) (by omega)) ?_) | (refine ey_mul (by first | rfl | exact cMul_l (by omega) (by omega) | exact cMul_r (by omega) (by omega)) ?_) | (refine ew_neg ?_) | (refine ey_neg ?_) | (refine ew_iB ?_) | (refine ey_iB ?_) | (refine ⟨_, by rfl, ?_⟩) | (refine ⟨(show List.length _ = _ from rfl), ?_⟩) | (simp only [wip, resto, List.getElem?_cons_zero, List.getElem?_cons_succ, Option.join_some, Option.join_none, Int.reduceToNat, seqK_nx, seqK_rt, turnK_nx, turnK_ct, maxI_eq, minI_eq, izs_len, fz_tup, fz_lst, fz_dic, fzs_eds, fzs_izs, fzs_nil, fzs_cons, takeArgs, refPos, refsOf, putBack, List.set_cons_zero, List.set_cons_succ, fz_int, fz_bl, fz_non])))
    have hc' : (decide ((hs.length : Int) = n) && hs.all fun h => decide (0 ≤ h) && decide (h < k)) = false := not_t hc
    exact ⟨by rw [hueB, hc']; rfl, trivial⟩
  · (repeat (first | (refine Q.seq ?_) | (refine Q.asg ?_) | (refine Q.ret ?_) | (refine Q.drop ?_) | (refine Q.nxt ?_) | (refine Q.setB rfl ?_) | (refine Q.val (by rfl) (by first | rfl | (simp only [cln_tup, cln_lst, clns_cons, clns_nil, clns_izs, clns_eds, cln_edge, cln_int, Bool.and_self, Bool.not_false, Bool.and_true, Bool.true_and]; first | done | fail)) ?_) | (refine Q.valv (by rfl) ?_) | (refine Q.takeI (by rfl) ?_) | (refine Q.consA ?_) | (refine Q.consO ?_) | (refine Q.nilO ?_) | (refine Q.nilP ?_) | (refine Q.tupM ?_) | (refine Q.lstM ?_) | (refine Q.dicE ?_) | (refine Q.call ?_) | (refine Q.refA (by rfl) ?_) | (refine Q.subI (by rfl) ?_) | (refine Q.valA ?_) | (refine Q.nilA ?_) | (refine Q.op2 ?_) | (refine Q.un ?_) | (refine Q.callA ?_) | (refine Q.callS ?_) | (refine Q.forS ?_) | (refine Q.iter ?_) | (refine Q.rng1 ?_) | (refine Q.rng2 ?_) | (refine Q.gtup rfl ?_) | (refine Q.gcons ?_) | (refine Q.gnil ?_) | (refine Q.put0 (by rfl) ?_) | (refine retK_rt (by rfl) ?_) | (refine ⟨Nat.le_of_ble_eq_true rfl, ?_⟩) | (refine ⟨_, rfl, big_ok (by omega) (by omega), ?_⟩) | (refine ⟨_, _, rfl, Bool.and_eq_true_iff.mpr ⟨big_ok (by omega) (by omega), big_ok (by omega) (by omega)⟩, ?_⟩) | (refine Q.truP ?_) | (refine Q.mbl ?_) | (refine Q.mtru ?_) | (refine Q.mnot ?_) | (refine Q.mor ?_) | (refine Q.mand ?_) | (refine ⟨by rfl, _, _, by rfl, ?_⟩) | (refine ⟨_, _, _, by rfl, by rfl, ?_⟩) | (refine ew_add ?_) | (refine ey_add ?_) | (refine ew_ii (by first | rfl | exact decide_eq_true (by omega) | exact cMul_l (by omega) (by omega) | exact cMul_r (by omega) (by omega)) ?_) | (refine ew_mul (by first | rfl | exact cMul_l (by omega) (by omega) | exact cMul_r (by omega) (by omega)) ?_) | (refine ey_ii (by first | rfl | exact decide_eq_true (by omega) | exact cMul_l (by omega) (by omega) | exact cMul_r (by omega) (by omega)) ?_) | (refine ey_mul (by first | rfl | exact cMul_l (by omega) (by omega) | exact cMul_r (by omega) (by omega)) ?_) | (refine ew_neg ?_) | (refine ey_neg ?_) | (refine ew_iB ?_) | (refine ey_iB ?_) | (refine ⟨_, by rfl, ?_⟩) | (refine ⟨(show List.length _ = _ from rfl), ?_⟩) | (simp only [wip, resto, List.getElem?_cons_zero, List.getElem?_cons_succ, Option.join_some, Option.join_none, Int.reduceToNat, seqK_nx, seqK_rt, turnK_nx, turnK_ct, maxI_eq, minI_eq, izs_len, fz_tup, fz_lst, fz_dic, fzs_eds, fzs_izs, fzs_nil, fzs_cons, takeArgs, refPos, refsOf, putBack, List.set_cons_zero, List.set_cons_succ, fz_int, fz_bl, fz_non])))
    rw [Bool.not_eq_false'] at hc
    have hlen := of_decide_eq_true (Bool.and_eq_true_iff.mp hc).1
    (refine Q.lcF ?_; (repeat (first | (refine Q.seq ?_) | (refine Q.asg ?_) | (refine Q.ret ?_) | (refine Q.drop ?_) | (refine Q.nxt ?_) | (refine Q.setB rfl ?_) | (refine Q.val (by rfl) (by first | rfl | (simp only [cln_tup, cln_lst, clns_cons, clns_nil, clns_izs, clns_eds, cln_edge, cln_int, Bool.and_self, Bool.not_false, Bool.and_true, Bool.true_and]; first | done | fail)) ?_) | (refine Q.valv (by rfl) ?_) | (refine Q.takeI (by rfl) ?_) | (refine Q.consA ?_) | (refine Q.consO ?_) | (refine Q.nilO ?_) | (refine Q.nilP ?_) | (refine Q.tupM ?_) | (refine Q.lstM ?_) | (refine Q.dicE ?_) | (refine Q.call ?_) | (refine Q.refA (by rfl) ?_) | (refine Q.subI (by rfl) ?_) | (refine Q.valA ?_) | (refine Q.nilA ?_) | (refine Q.op2 ?_) | (refine Q.un ?_) | (refine Q.callA ?_) | (refine Q.callS ?_) | (refine Q.forS ?_) | (refine Q.iter ?_) | (refine Q.rng1 ?_) | (refine Q.rng2 ?_) | (refine Q.gtup rfl ?_) | (refine Q.gcons ?_) | (refine Q.gnil ?_) | (refine Q.put0 (by rfl) ?_) | (refine retK_rt (by rfl) ?_) | (refine ⟨Nat.le_of_ble_eq_true rfl, ?_⟩) | (refine ⟨_, rfl, big_ok (by omega) (by omega), ?_⟩) | (refine ⟨_, _, rfl, Bool.and_eq_true_iff.mpr ⟨big_ok (by omega) (by omega), big_ok (by omega) (by omega)⟩, ?_⟩) | (refine Q.truP ?_) | (refine Q.mbl ?_) | (refine Q.mtru ?_) | (refine Q.mnot ?_) | (refine Q.mor ?_) | (refine Q.mand ?_) | (refine ⟨by rfl, _, _, by rfl, ?_⟩) | (refine ⟨_, _, _, by rfl, by rfl, ?_⟩) | (refine ew_add ?_) | (refine ey_add ?_) | (refine ew_ii (by first | rfl | exact decide_eq_true (by omega) | exact cMul_l (by omega) (by omega) | exact cMul_r (by omega) (by omega)) ?_) | (refine ew_mul (by first | rfl | exact cMul_l (by omega) (by omega) | exact cMul_r (by omega) (by omega)) ?_) | (refine ey_ii (by first | rfl | exact decide_eq_true (by omega) | exact cMul_l (by omega) (by omega) | exact cMul_r (by omega) (by omega)) ?_) | (refine ey_mul (by first | rfl | exact cMul_l (by omega) (by omega) | exact cMul_r (by omega) (by omega)) ?_) | (refine ew_neg ?_) | (refine ey_neg ?_) | (refine ew_iB ?_) | (refine ey_iB ?_) | (refine ⟨_, by rfl, ?_⟩) | (refine ⟨(show List.length _ = _ from rfl), ?_⟩) | (simp only [wip, resto, List.getElem?_cons_zero, List.getElem?_cons_succ, Option.join_some, Option.join_none, Int.reduceToNat, seqK_nx, seqK_rt, turnK_nx, turnK_ct, maxI_eq, minI_eq, izs_len, fz_tup, fz_lst, fz_dic, fzs_eds, fzs_izs, fzs_nil, fzs_cons, takeArgs, refPos, refsOf, putBack, List.set_cons_zero, List.set_cons_succ, fz_int, fz_bl, fz_non]))); refine ⟨by rfl, by ((try simp only [rngD_len, List.length_map]); have := Nat.le_of_ble_eq_true (show Nat.ble 10000000 sizeLine = true from rfl); omega), fun d => match d with | .tup [.int a, .int b] => .bl (!decide (hs.getD a.toNat 0 = hs.getD b.toNat 0)) | _ => .non, ?_, ?_⟩)
    · intro d hd
      obtain ⟨e, hm, rfl⟩ := List.mem_map.mp hd
      obtain ⟨h1, h2, h3⟩ := he e hm
      obtain ⟨x, x1, _, x2⟩ := atI_izs (xs := hs) (i := e.1) h1 (by omega)
      obtain ⟨y, y1, _, y2⟩ := atI_izs (xs := hs) (i := e.2) (by omega) (by omega)
      (repeat (first | (refine Q.seq ?_) | (refine Q.asg ?_) | (refine Q.ret ?_) | (refine Q.drop ?_) | (refine Q.nxt ?_) | (refine Q.setB rfl ?_) | (refine Q.val (by rfl) (by first | rfl | (simp only [cln_tup, cln_lst, clns_cons, clns_nil, clns_izs, clns_eds, cln_edge, cln_int, Bool.and_self, Bool.not_false, Bool.and_true, Bool.true_and]; first | done | fail)) ?_) | (refine Q.valv (by rfl) ?_) | (refine Q.takeI (by rfl) ?_) | (refine Q.consA ?_) | (refine Q.consO ?_) | (refine Q.nilO ?_) | (refine Q.nilP ?_) | (refine Q.tupM ?_) | (refine Q.lstM ?_) | (refine Q.dicE ?_) | (refine Q.call ?_) | (refine Q.refA (by rfl) ?_) | (refine Q.subI (by rfl) ?_) | (refine Q.valA ?_) | (refine Q.nilA ?_) | (refine Q.op2 ?_) | (refine Q.un ?_) | (refine Q.callA ?_) | (refine Q.callS ?_) | (refine Q.forS ?_) | (refine Q.iter ?_) | (refine Q.rng1 ?_) | (refine Q.rng2 ?_) | (refine Q.gtup rfl ?_) | (refine Q.gcons ?_) | (refine Q.gnil ?_) | (refine Q.put0 (by rfl) ?_) | (refine retK_rt (by rfl) ?_) | (refine ⟨Nat.le_of_ble_eq_true rfl, ?_⟩) | (refine ⟨_, rfl, big_ok (by omega) (by omega), ?_⟩) | (refine ⟨_, _, rfl, Bool.and_eq_true_iff.mpr ⟨big_ok (by omega) (by omega), big_ok (by omega) (by omega)⟩, ?_⟩) | (refine Q.truP ?_) | (refine Q.mbl ?_) | (refine Q.mtru ?_) | (refine Q.mnot ?_) | (refine Q.mor ?_) | (refine Q.mand ?_) | (refine ⟨by rfl, _, _, by rfl, ?_⟩) | (refine ⟨_, _, _, by rfl, by rfl, ?_⟩) | (refine ew_add ?_) | (refine ey_add ?_) | (refine ew_ii (by first | rfl | exact decide_eq_true (by omega) | exact cMul_l (by omega) (by omega) | exact cMul_r (by omega) (by omega)) ?_) | (refine ew_mul (by first | rfl | exact cMul_l (by omega) (by omega) | exact cMul_r (by omega) (by omega)) ?_) | (refine ey_ii (by first | rfl | exact decide_eq_true (by omega) | exact cMul_l (by omega) (by omega) | exact cMul_r (by omega) (by omega)) ?_) | (refine ey_mul (by first | rfl | exact cMul_l (by omega) (by omega) | exact cMul_r (by omega) (by omega)) ?_) | (refine ew_neg ?_) | (refine ey_neg ?_) | (refine ew_iB ?_) | (refine ey_iB ?_) | (refine ⟨_, by rfl, ?_⟩) | (refine ⟨(show List.length _ = _ from rfl), ?_⟩) | (simp only [wip, resto, List.getElem?_cons_zero, List.getElem?_cons_succ, Option.join_some, Option.join_none, Int.reduceToNat, seqK_nx, seqK_rt, turnK_nx, turnK_ct, maxI_eq, minI_eq, izs_len, fz_tup, fz_lst, fz_dic, fzs_eds, fzs_izs, fzs_nil, fzs_cons, takeArgs, refPos, refsOf, putBack, List.set_cons_zero, List.set_cons_succ, fz_int, fz_bl, fz_non])))
      refine Q.val (d := .bl (!decide (x = y))) (by (simp (disch := omega) only [Int.reduceToNat, atI_z, atI_1, atI_2, List.set_cons_zero, List.set_cons_succ, pOp2, pVar, pCst, pCall, pCons, pNil, pBl, pTru, pNotB, pAndB, pOrB, pAnd, pOr, pNot, pChain, pIf, pUn, pSnoc, iiI, iiB, subX, lenX, blX, truD, seqD, negX, intX, List.getElem?_cons_zero, List.getElem?_cons_succ, List.nil_append, List.cons_append, Int.reduceLT, Int.reduceLE, and_self, and_true, true_and, Bool.and_true, Bool.true_and, decide_eq_true_eq, if_true, if_pos, decide_true, Option.map_some, Bool.false_eq_true, if_false, maxX, minX, x2, y2, neX_int]) <;> rfl) (by rfl) ?_
      (repeat (first | (refine Q.seq ?_) | (refine Q.asg ?_) | (refine Q.ret ?_) | (refine Q.drop ?_) | (refine Q.nxt ?_) | (refine Q.setB rfl ?_) | (refine Q.val (by rfl) (by first | rfl | (simp only [cln_tup, cln_lst, clns_cons, clns_nil, clns_izs, clns_eds, cln_edge, cln_int, Bool.and_self, Bool.not_false, Bool.and_true, Bool.true_and]; first | done | fail)) ?_) | (refine Q.valv (by rfl) ?_) | (refine Q.takeI (by rfl) ?_) | (refine Q.consA ?_) | (refine Q.consO ?_) | (refine Q.nilO ?_) | (refine Q.nilP ?_) | (refine Q.tupM ?_) | (refine Q.lstM ?_) | (refine Q.dicE ?_) | (refine Q.call ?_) | (refine Q.refA (by rfl) ?_) | (refine Q.subI (by rfl) ?_) | (refine Q.valA ?_) | (refine Q.nilA ?_) | (refine Q.op2 ?_) | (refine Q.un ?_) | (refine Q.callA ?_) | (refine Q.callS ?_) | (refine Q.forS ?_) | (refine Q.iter ?_) | (refine Q.rng1 ?_) | (refine Q.rng2 ?_) | (refine Q.gtup rfl ?_) | (refine Q.gcons ?_) | (refine Q.gnil ?_) | (refine Q.put0 (by rfl) ?_) | (refine retK_rt (by rfl) ?_) | (refine ⟨Nat.le_of_ble_eq_true rfl, ?_⟩) | (refine ⟨_, rfl, big_ok (by omega) (by omega), ?_⟩) | (refine ⟨_, _, rfl, Bool.and_eq_true_iff.mpr ⟨big_ok (by omega) (by omega), big_ok (by omega) (by omega)⟩, ?_⟩) | (refine Q.truP ?_) | (refine Q.mbl ?_) | (refine Q.mtru ?_) | (refine Q.mnot ?_) | (refine Q.mor ?_) | (refine Q.mand ?_) | (refine ⟨by rfl, _, _, by rfl, ?_⟩) | (refine ⟨_, _, _, by rfl, by rfl, ?_⟩) | (refine ew_add ?_) | (refine ey_add ?_) | (refine ew_ii (by first | rfl | exact decide_eq_true (by omega) | exact cMul_l (by omega) (by omega) | exact cMul_r (by omega) (by omega)) ?_) | (refine ew_mul (by first | rfl | exact cMul_l (by omega) (by omega) | exact cMul_r (by omega) (by omega)) ?_) | (refine ey_ii (by first | rfl | exact decide_eq_true (by omega) | exact cMul_l (by omega) (by omega) | exact cMul_r (by omega) (by omega)) ?_) | (refine ey_mul (by first | rfl | exact cMul_l (by omega) (by omega) | exact cMul_r (by omega) (by omega)) ?_) | (refine ew_neg ?_) | (refine ey_neg ?_) | (refine ew_iB ?_) | (refine ey_iB ?_) | (refine ⟨_, by rfl, ?_⟩) | (refine ⟨(show List.length _ = _ from rfl), ?_⟩) | (simp only [wip, resto, List.getElem?_cons_zero, List.getElem?_cons_succ, Option.join_some, Option.join_none, Int.reduceToNat, seqK_nx, seqK_rt, turnK_nx, turnK_ct, maxI_eq, minI_eq, izs_len, fz_tup, fz_lst, fz_dic, fzs_eds, fzs_izs, fzs_nil, fzs_cons, takeArgs, refPos, refsOf, putBack, List.set_cons_zero, List.set_cons_succ, fz_int, fz_bl, fz_non])))
      exact ⟨by rw [getD_of x1, getD_of y1], trivial⟩
    · (repeat (first | (refine Q.seq ?_) | (refine Q.asg ?_) | (refine Q.ret ?_) | (refine Q.drop ?_) | (refine Q.nxt ?_) | (refine Q.setB rfl ?_) | (refine Q.val (by rfl) (by first | rfl | (simp only [cln_tup, cln_lst, clns_cons, clns_nil, clns_izs, clns_eds, cln_edge, cln_int, Bool.and_self, Bool.not_false, Bool.and_true, Bool.true_and]; first | done | fail)) ?_) | (refine Q.valv (by rfl) ?_) | (refine Q.takeI (by rfl) ?_) | (refine Q.consA ?_) | (refine Q.consO ?_) | (refine Q.nilO ?_) | (refine Q.nilP ?_) | (refine Q.tupM ?_) | (refine Q.lstM ?_) | (refine Q.dicE ?_) | (refine Q.call ?_) | (refine Q.refA (by rfl) ?_) | (refine Q.subI (by rfl) ?_) | (refine Q.valA ?_) | (refine Q.nilA ?_) | (refine Q.op2 ?_) | (refine Q.un ?_) | (refine Q.callA ?_) | (refine Q.callS ?_) | (refine Q.forS ?_) | (refine Q.iter ?_) | (refine Q.rng1 ?_) | (refine Q.rng2 ?_) | (refine Q.gtup rfl ?_) | (refine Q.gcons ?_) | (refine Q.gnil ?_) | (refine Q.put0 (by rfl) ?_) | (refine retK_rt (by rfl) ?_) | (refine ⟨Nat.le_of_ble_eq_true rfl, ?_⟩) | (refine ⟨_, rfl, big_ok (by omega) (by omega), ?_⟩) | (refine ⟨_, _, rfl, Bool.and_eq_true_iff.mpr ⟨big_ok (by omega) (by omega), big_ok (by omega) (by omega)⟩, ?_⟩) | (refine Q.truP ?_) | (refine Q.mbl ?_) | (refine Q.mtru ?_) | (refine Q.mnot ?_) | (refine Q.mor ?_) | (refine Q.mand ?_) | (refine ⟨by rfl, _, _, by rfl, ?_⟩) | (refine ⟨_, _, _, by rfl, by rfl, ?_⟩) | (refine ew_add ?_) | (refine ey_add ?_) | (refine ew_ii (by first | rfl | exact decide_eq_true (by omega) | exact cMul_l (by omega) (by omega) | exact cMul_r (by omega) (by omega)) ?_) | (refine ew_mul (by first | rfl | exact cMul_l (by omega) (by omega) | exact cMul_r (by omega) (by omega)) ?_) | (refine ey_ii (by first | rfl | exact decide_eq_true (by omega) | exact cMul_l (by omega) (by omega) | exact cMul_r (by omega) (by omega)) ?_) | (refine ey_mul (by first | rfl | exact cMul_l (by omega) (by omega) | exact cMul_r (by omega) (by omega)) ?_) | (refine ew_neg ?_) | (refine ey_neg ?_) | (refine ew_iB ?_) | (refine ey_iB ?_) | (refine ⟨_, by rfl, ?_⟩) | (refine ⟨(show List.length _ = _ from rfl), ?_⟩) | (simp only [wip, resto, List.getElem?_cons_zero, List.getElem?_cons_succ, Option.join_some, Option.join_none, Int.reduceToNat, seqK_nx, seqK_rt, turnK_nx, turnK_ct, maxI_eq, minI_eq, izs_len, fz_tup, fz_lst, fz_dic, fzs_eds, fzs_izs, fzs_nil, fzs_cons, takeArgs, refPos, refsOf, putBack, List.set_cons_zero, List.set_cons_succ, fz_int, fz_bl, fz_non])))
      rw [eds, List.map_map]
      refine ⟨_, all_blsF (f := fun e => !decide (hs.getD e.1.toNat 0 = hs.getD e.2.toNat 0)) fun e _ => rfl, rfl, ?_⟩
      (repeat (first | (refine Q.seq ?_) | (refine Q.asg ?_) | (refine Q.ret ?_) | (refine Q.drop ?_) | (refine Q.nxt ?_) | (refine Q.setB rfl ?_) | (refine Q.val (by rfl) (by first | rfl | (simp only [cln_tup, cln_lst, clns_cons, clns_nil, clns_izs, clns_eds, cln_edge, cln_int, Bool.and_self, Bool.not_false, Bool.and_true, Bool.true_and]; first | done | fail)) ?_) | (refine Q.valv (by rfl) ?_) | (refine Q.takeI (by rfl) ?_) | (refine Q.consA ?_) | (refine Q.consO ?_) | (refine Q.nilO ?_) | (refine Q.nilP ?_) | (refine Q.tupM ?_) | (refine Q.lstM ?_) | (refine Q.dicE ?_) | (refine Q.call ?_) | (refine Q.refA (by rfl) ?_) | (refine Q.subI (by rfl) ?_) | (refine Q.valA ?_) | (refine Q.nilA ?_) | (refine Q.op2 ?_) | (refine Q.un ?_) | (refine Q.callA ?_) | (refine Q.callS ?_) | (refine Q.forS ?_) | (refine Q.iter ?_) | (refine Q.rng1 ?_) | (refine Q.rng2 ?_) | (refine Q.gtup rfl ?_) | (refine Q.gcons ?_) | (refine Q.gnil ?_) | (refine Q.put0 (by rfl) ?_) | (refine retK_rt (by rfl) ?_) | (refine ⟨Nat.le_of_ble_eq_true rfl, ?_⟩) | (refine ⟨_, rfl, big_ok (by omega) (by omega), ?_⟩) | (refine ⟨_, _, rfl, Bool.and_eq_true_iff.mpr ⟨big_ok (by omega) (by omega), big_ok (by omega) (by omega)⟩, ?_⟩) | (refine Q.truP ?_) | (refine Q.mbl ?_) | (refine Q.mtru ?_) | (refine Q.mnot ?_) | (refine Q.mor ?_) | (refine Q.mand ?_) | (refine ⟨by rfl, _, _, by rfl, ?_⟩) | (refine ⟨_, _, _, by rfl, by rfl, ?_⟩) | (refine ew_add ?_) | (refine ey_add ?_) | (refine ew_ii (by first | rfl | exact decide_eq_true (by omega) | exact cMul_l (by omega) (by omega) | exact cMul_r (by omega) (by omega)) ?_) | (refine ew_mul (by first | rfl | exact cMul_l (by omega) (by omega) | exact cMul_r (by omega) (by omega)) ?_) | (refine ey_ii (by first | rfl | exact decide_eq_true (by omega) | exact cMul_l (by omega) (by omega) | exact cMul_r (by omega) (by omega)) ?_) | (refine ey_mul (by first | rfl | exact cMul_l (by omega) (by omega) | exact cMul_r (by omega) (by omega)) ?_) | (refine ew_neg ?_) | (refine ey_neg ?_) | (refine ew_iB ?_) | (refine ey_iB ?_) | (refine ⟨_, by rfl, ?_⟩) | (refine ⟨(show List.length _ = _ from rfl), ?_⟩) | (simp only [wip, resto, List.getElem?_cons_zero, List.getElem?_cons_succ, Option.join_some, Option.join_none, Int.reduceToNat, seqK_nx, seqK_rt, turnK_nx, turnK_ct, maxI_eq, minI_eq, izs_len, fz_tup, fz_lst, fz_dic, fzs_eds, fzs_izs, fzs_nil, fzs_cons, takeArgs, refPos, refsOf, putBack, List.set_cons_zero, List.set_cons_succ, fz_int, fz_bl, fz_non])))
      exact ⟨by rw [hueB, hc, Bool.true_and], trivial⟩
end K59

namespace K59
open PySem L2 PX
theorem hued_ok {m : Nat} {p : D} (h : Pen m p) (hm : m ≤ 100000) {n k : Int} {es : List (Int × Int)} (hn : 1 ≤ n) (hn2 : n ≤ 1000) (hk : 0 ≤ k) (hk2 : k ≤ 1000) (he : ∀ e ∈ es, 0 ≤ e.1 ∧ e.1 < e.2 ∧ e.2 < n) (hl : es.length ≤ 5000) : Ret (law_huedF [p, webD n es, .int k]) fun r os => ∃ hs p', r = .lst true (izs hs) ∧ hs.length = n ∧ os = [p'] ∧ Pen (m + n.toNat) p' := by
  refine Q.start (by (simp only [entry, List.map_cons, List.map_nil, List.length_cons, List.length_nil, List.replicate, List.cons_append, List.nil_append, Nat.reduceAdd, Nat.reduceSub]) <;> rfl) ?_
  unfold law_huedB
  (repeat (first | (refine Q.seq ?_) | (refine Q.asg ?_) | (refine Q.ret ?_) | (refine Q.drop ?_) | (refine Q.nxt ?_) | (refine Q.setB rfl ?_) | (refine Q.val (by rfl) (by first | rfl | (simp only [cln_tup, cln_lst, clns_cons, clns_nil, clns_izs, clns_eds, cln_edge, cln_int, Bool.and_self, Bool.not_false, Bool.and_true, Bool.true_and]; first | done | fail)) ?_) | (refine Q.valv (by rfl) ?_) | (refine Q.takeI (by rfl) ?_) | (refine Q.consA ?_) | (refine Q.consO ?_) | (refine Q.nilO ?_) | (refine Q.nilP ?_) | (refine Q.tupM ?_) | (refine Q.lstM ?_) | (refine Q.dicE ?_) | (refine Q.call ?_) | (refine Q.refA (by rfl) ?_) | (refine Q.subI (by rfl) ?_) | (refine Q.valA ?_) | (refine Q.nilA ?_) | (refine Q.op2 ?_) | (refine Q.un ?_) | (refine Q.callA ?_) | (refine Q.callS ?_) | (refine Q.forS ?_) | (refine Q.iter ?_) | (refine Q.rng1 ?_) | (refine Q.rng2 ?_) | (refine Q.gtup rfl ?_) | (refine Q.gcons ?_) | (refine Q.gnil ?_) | (refine Q.put0 (by rfl) ?_) | (refine retK_rt (by rfl) ?_) | (refine ⟨Nat.le_of_ble_eq_true rfl, ?_⟩) | (refine ⟨_, rfl, big_ok (by omega) (by omega), ?_⟩) | (refine ⟨_, _, rfl, Bool.and_eq_true_iff.mpr ⟨big_ok (by omega) (by omega), big_ok (by omega) (by omega)⟩, ?_⟩) | (refine Q.truP ?_) | (refine Q.mbl ?_) | (refine Q.mtru ?_) | (refine Q.mnot ?_) | (refine Q.mor ?_) | (refine Q.mand ?_) | (refine ⟨by rfl, _, _, by rfl, ?_⟩) | (refine ⟨_, _, _, by rfl, by rfl, ?_⟩) | (refine ew_add ?_) | (refine ey_add ?_) | (refine ew_ii (by first | rfl | exact decide_eq_true (by omega) | exact cMul_l (by omega) (by omega) | exact cMul_r (by omega) (by omega)) ?_) | (refine ew_mul (by first | rfl | exact cMul_l (by omega) (by omega) | exact cMul_r (by omega) (by omega)) ?_) | (refine ey_ii (by first | rfl | exact decide_eq_true (by omega) | exact cMul_l (by omega) (by omega) | exact cMul_r (by omega) (by omega)) ?_) | (refine ey_mul (by first | rfl | exact cMul_l (by omega) (by omega) | exact cMul_r (by omega) (by omega)) ?_) | (refine ew_neg ?_) | (refine ey_neg ?_) | (refine ew_iB ?_) | (refine ey_iB ?_) | (refine ⟨_, by rfl, ?_⟩) | (refine ⟨(show List.length _ = _ from rfl), ?_⟩) | (simp only [wip, resto, List.getElem?_cons_zero, List.getElem?_cons_succ, Option.join_some, Option.join_none, Int.reduceToNat, seqK_nx, seqK_rt, turnK_nx, turnK_ct, maxI_eq, minI_eq, izs_len, fz_tup, fz_lst, fz_dic, fzs_eds, fzs_izs, fzs_nil, fzs_cons, takeArgs, refPos, refsOf, putBack, List.set_cons_zero, List.set_cons_succ, fz_int, fz_bl, fz_non])))
  refine (near_ok (by omega) (by omega) he (by omega)).imp ?_
  rintro _ _ ⟨rfl, L, rfl, hL, hL2⟩
  (repeat (first | (refine Q.seq ?_) | (refine Q.asg ?_) | (refine Q.ret ?_) | (refine Q.drop ?_) | (refine Q.nxt ?_) | (refine Q.setB rfl ?_) | (refine Q.val (by rfl) (by first | rfl | (simp only [cln_tup, cln_lst, clns_cons, clns_nil, clns_izs, clns_eds, cln_edge, cln_int, Bool.and_self, Bool.not_false, Bool.and_true, Bool.true_and]; first | done | fail)) ?_) | (refine Q.valv (by rfl) ?_) | (refine Q.takeI (by rfl) ?_) | (refine Q.consA ?_) | (refine Q.consO ?_) | (refine Q.nilO ?_) | (refine Q.nilP ?_) | (refine Q.tupM ?_) | (refine Q.lstM ?_) | (refine Q.dicE ?_) | (refine Q.call ?_) | (refine Q.refA (by rfl) ?_) | (refine Q.subI (by rfl) ?_) | (refine Q.valA ?_) | (refine Q.nilA ?_) | (refine Q.op2 ?_) | (refine Q.un ?_) | (refine Q.callA ?_) | (refine Q.callS ?_) | (refine Q.forS ?_) | (refine Q.iter ?_) | (refine Q.rng1 ?_) | (refine Q.rng2 ?_) | (refine Q.gtup rfl ?_) | (refine Q.gcons ?_) | (refine Q.gnil ?_) | (refine Q.put0 (by rfl) ?_) | (refine retK_rt (by rfl) ?_) | (refine ⟨Nat.le_of_ble_eq_true rfl, ?_⟩) | (refine ⟨_, rfl, big_ok (by omega) (by omega), ?_⟩) | (refine ⟨_, _, rfl, Bool.and_eq_true_iff.mpr ⟨big_ok (by omega) (by omega), big_ok (by omega) (by omega)⟩, ?_⟩) | (refine Q.truP ?_) | (refine Q.mbl ?_) | (refine Q.mtru ?_) | (refine Q.mnot ?_) | (refine Q.mor ?_) | (refine Q.mand ?_) | (refine ⟨by rfl, _, _, by rfl, ?_⟩) | (refine ⟨_, _, _, by rfl, by rfl, ?_⟩) | (refine ew_add ?_) | (refine ey_add ?_) | (refine ew_ii (by first | rfl | exact decide_eq_true (by omega) | exact cMul_l (by omega) (by omega) | exact cMul_r (by omega) (by omega)) ?_) | (refine ew_mul (by first | rfl | exact cMul_l (by omega) (by omega) | exact cMul_r (by omega) (by omega)) ?_) | (refine ey_ii (by first | rfl | exact decide_eq_true (by omega) | exact cMul_l (by omega) (by omega) | exact cMul_r (by omega) (by omega)) ?_) | (refine ey_mul (by first | rfl | exact cMul_l (by omega) (by omega) | exact cMul_r (by omega) (by omega)) ?_) | (refine ew_neg ?_) | (refine ey_neg ?_) | (refine ew_iB ?_) | (refine ey_iB ?_) | (refine ⟨_, by rfl, ?_⟩) | (refine ⟨(show List.length _ = _ from rfl), ?_⟩) | (simp only [wip, resto, List.getElem?_cons_zero, List.getElem?_cons_succ, Option.join_some, Option.join_none, Int.reduceToNat, seqK_nx, seqK_rt, turnK_nx, turnK_ct, maxI_eq, minI_eq, izs_len, fz_tup, fz_lst, fz_dic, fzs_eds, fzs_izs, fzs_nil, fzs_cons, takeArgs, refPos, refsOf, putBack, List.set_cons_zero, List.set_cons_succ, fz_int, fz_bl, fz_non])))
  refine Q.forL (fun i Γ => ∃ (p : D) (o : Bool) (hs : List Int) (a b c d e : Option D), Γ = [some p, some (webD n es), some (.int k), some (lsO o L), some (.lst true (izs hs)), a, b, c, none, none] ∧ Pen (m + i) p ∧ hs.length = i) ?_ ?_ ?_
  · exact ⟨_, true, [], _, _, _, none, none, rfl, h, rfl⟩
  · rintro i d Γ hd ⟨p, o, hs, a, b, c, d', e', rfl, hp, hlen⟩
    obtain ⟨rfl, hi⟩ := rng_get hd
    obtain ⟨l, _, lm, l3⟩ := lsO_at (L := L) (i := 0 + (i : Int)) (by omega) (by omega)
    (repeat (first | (refine Q.seq ?_) | (refine Q.asg ?_) | (refine Q.ret ?_) | (refine Q.drop ?_) | (refine Q.nxt ?_) | (refine Q.setB rfl ?_) | (refine Q.val (by rfl) (by first | rfl | (simp only [cln_tup, cln_lst, clns_cons, clns_nil, clns_izs, clns_eds, cln_edge, cln_int, Bool.and_self, Bool.not_false, Bool.and_true, Bool.true_and]; first | done | fail)) ?_) | (refine Q.valv (by rfl) ?_) | (refine Q.takeI (by rfl) ?_) | (refine Q.consA ?_) | (refine Q.consO ?_) | (refine Q.nilO ?_) | (refine Q.nilP ?_) | (refine Q.tupM ?_) | (refine Q.lstM ?_) | (refine Q.dicE ?_) | (refine Q.call ?_) | (refine Q.refA (by rfl) ?_) | (refine Q.subI (by rfl) ?_) | (refine Q.valA ?_) | (refine Q.nilA ?_) | (refine Q.op2 ?_) | (refine Q.un ?_) | (refine Q.callA ?_) | (refine Q.callS ?_) | (refine Q.forS ?_) | (refine Q.iter ?_) | (refine Q.rng1 ?_) | (refine Q.rng2 ?_) | (refine Q.gtup rfl ?_) | (refine Q.gcons ?_) | (refine Q.gnil ?_) | (refine Q.put0 (by rfl) ?_) | (refine retK_rt (by rfl) ?_) | (refine ⟨Nat.le_of_ble_eq_true rfl, ?_⟩) | (refine ⟨_, rfl, big_ok (by omega) (by omega), ?_⟩) | (refine ⟨_, _, rfl, Bool.and_eq_true_iff.mpr ⟨big_ok (by omega) (by omega), big_ok (by omega) (by omega)⟩, ?_⟩) | (refine Q.truP ?_) | (refine Q.mbl ?_) | (refine Q.mtru ?_) | (refine Q.mnot ?_) | (refine Q.mor ?_) | (refine Q.mand ?_) | (refine ⟨by rfl, _, _, by rfl, ?_⟩) | (refine ⟨_, _, _, by rfl, by rfl, ?_⟩) | (refine ew_add ?_) | (refine ey_add ?_) | (refine ew_ii (by first | rfl | exact decide_eq_true (by omega) | exact cMul_l (by omega) (by omega) | exact cMul_r (by omega) (by omega)) ?_) | (refine ew_mul (by first | rfl | exact cMul_l (by omega) (by omega) | exact cMul_r (by omega) (by omega)) ?_) | (refine ey_ii (by first | rfl | exact decide_eq_true (by omega) | exact cMul_l (by omega) (by omega) | exact cMul_r (by omega) (by omega)) ?_) | (refine ey_mul (by first | rfl | exact cMul_l (by omega) (by omega) | exact cMul_r (by omega) (by omega)) ?_) | (refine ew_neg ?_) | (refine ey_neg ?_) | (refine ew_iB ?_) | (refine ey_iB ?_) | (refine ⟨_, by rfl, ?_⟩) | (refine ⟨(show List.length _ = _ from rfl), ?_⟩) | (simp only [wip, resto, List.getElem?_cons_zero, List.getElem?_cons_succ, Option.join_some, Option.join_none, Int.reduceToNat, seqK_nx, seqK_rt, turnK_nx, turnK_ct, maxI_eq, minI_eq, izs_len, fz_tup, fz_lst, fz_dic, fzs_eds, fzs_izs, fzs_nil, fzs_cons, takeArgs, refPos, refsOf, putBack, List.set_cons_zero, List.set_cons_succ, fz_int, fz_bl, fz_non])))
    refine Q.lcT ?_
    (repeat (first | (refine Q.seq ?_) | (refine Q.asg ?_) | (refine Q.ret ?_) | (refine Q.drop ?_) | (refine Q.nxt ?_) | (refine Q.setB rfl ?_) | (refine Q.val (by rfl) (by first | rfl | (simp only [cln_tup, cln_lst, clns_cons, clns_nil, clns_izs, clns_eds, cln_edge, cln_int, Bool.and_self, Bool.not_false, Bool.and_true, Bool.true_and]; first | done | fail)) ?_) | (refine Q.valv (by rfl) ?_) | (refine Q.takeI (by rfl) ?_) | (refine Q.consA ?_) | (refine Q.consO ?_) | (refine Q.nilO ?_) | (refine Q.nilP ?_) | (refine Q.tupM ?_) | (refine Q.lstM ?_) | (refine Q.dicE ?_) | (refine Q.call ?_) | (refine Q.refA (by rfl) ?_) | (refine Q.subI (by rfl) ?_) | (refine Q.valA ?_) | (refine Q.nilA ?_) | (refine Q.op2 ?_) | (refine Q.un ?_) | (refine Q.callA ?_) | (refine Q.callS ?_) | (refine Q.forS ?_) | (refine Q.iter ?_) | (refine Q.rng1 ?_) | (refine Q.rng2 ?_) | (refine Q.gtup rfl ?_) | (refine Q.gcons ?_) | (refine Q.gnil ?_) | (refine Q.put0 (by rfl) ?_) | (refine retK_rt (by rfl) ?_) | (refine ⟨Nat.le_of_ble_eq_true rfl, ?_⟩) | (refine ⟨_, rfl, big_ok (by omega) (by omega), ?_⟩) | (refine ⟨_, _, rfl, Bool.and_eq_true_iff.mpr ⟨big_ok (by omega) (by omega), big_ok (by omega) (by omega)⟩, ?_⟩) | (refine Q.truP ?_) | (refine Q.mbl ?_) | (refine Q.mtru ?_) | (refine Q.mnot ?_) | (refine Q.mor ?_) | (refine Q.mand ?_) | (refine ⟨by rfl, _, _, by rfl, ?_⟩) | (refine ⟨_, _, _, by rfl, by rfl, ?_⟩) | (refine ew_add ?_) | (refine ey_add ?_) | (refine ew_ii (by first | rfl | exact decide_eq_true (by omega) | exact cMul_l (by omega) (by omega) | exact cMul_r (by omega) (by omega)) ?_) | (refine ew_mul (by first | rfl | exact cMul_l (by omega) (by omega) | exact cMul_r (by omega) (by omega)) ?_) | (refine ey_ii (by first | rfl | exact decide_eq_true (by omega) | exact cMul_l (by omega) (by omega) | exact cMul_r (by omega) (by omega)) ?_) | (refine ey_mul (by first | rfl | exact cMul_l (by omega) (by omega) | exact cMul_r (by omega) (by omega)) ?_) | (refine ew_neg ?_) | (refine ey_neg ?_) | (refine ew_iB ?_) | (refine ey_iB ?_) | (refine ⟨_, by rfl, ?_⟩) | (refine ⟨(show List.length _ = _ from rfl), ?_⟩) | (simp only [wip, resto, List.getElem?_cons_zero, List.getElem?_cons_succ, Option.join_some, Option.join_none, Int.reduceToNat, seqK_nx, seqK_rt, turnK_nx, turnK_ct, maxI_eq, minI_eq, izs_len, fz_tup, fz_lst, fz_dic, fzs_eds, fzs_izs, fzs_nil, fzs_cons, takeArgs, refPos, refsOf, putBack, List.set_cons_zero, List.set_cons_succ, fz_int, fz_bl, fz_non])))
    refine Q.lsV (by rfl) (by rfl) (by rfl) l3 ?_
    (repeat (first | (refine Q.seq ?_) | (refine Q.asg ?_) | (refine Q.ret ?_) | (refine Q.drop ?_) | (refine Q.nxt ?_) | (refine Q.setB rfl ?_) | (refine Q.val (by rfl) (by first | rfl | (simp only [cln_tup, cln_lst, clns_cons, clns_nil, clns_izs, clns_eds, cln_edge, cln_int, Bool.and_self, Bool.not_false, Bool.and_true, Bool.true_and]; first | done | fail)) ?_) | (refine Q.valv (by rfl) ?_) | (refine Q.takeI (by rfl) ?_) | (refine Q.consA ?_) | (refine Q.consO ?_) | (refine Q.nilO ?_) | (refine Q.nilP ?_) | (refine Q.tupM ?_) | (refine Q.lstM ?_) | (refine Q.dicE ?_) | (refine Q.call ?_) | (refine Q.refA (by rfl) ?_) | (refine Q.subI (by rfl) ?_) | (refine Q.valA ?_) | (refine Q.nilA ?_) | (refine Q.op2 ?_) | (refine Q.un ?_) | (refine Q.callA ?_) | (refine Q.callS ?_) | (refine Q.forS ?_) | (refine Q.iter ?_) | (refine Q.rng1 ?_) | (refine Q.rng2 ?_) | (refine Q.gtup rfl ?_) | (refine Q.gcons ?_) | (refine Q.gnil ?_) | (refine Q.put0 (by rfl) ?_) | (refine retK_rt (by rfl) ?_) | (refine ⟨Nat.le_of_ble_eq_true rfl, ?_⟩) | (refine ⟨_, rfl, big_ok (by omega) (by omega), ?_⟩) | (refine ⟨_, _, rfl, Bool.and_eq_true_iff.mpr ⟨big_ok (by omega) (by omega), big_ok (by omega) (by omega)⟩, ?_⟩) | (refine Q.truP ?_) | (refine Q.mbl ?_) | (refine Q.mtru ?_) | (refine Q.mnot ?_) | (refine Q.mor ?_) | (refine Q.mand ?_) | (refine ⟨by rfl, _, _, by rfl, ?_⟩) | (refine ⟨_, _, _, by rfl, by rfl, ?_⟩) | (refine ew_add ?_) | (refine ey_add ?_) | (refine ew_ii (by first | rfl | exact decide_eq_true (by omega) | exact cMul_l (by omega) (by omega) | exact cMul_r (by omega) (by omega)) ?_) | (refine ew_mul (by first | rfl | exact cMul_l (by omega) (by omega) | exact cMul_r (by omega) (by omega)) ?_) | (refine ey_ii (by first | rfl | exact decide_eq_true (by omega) | exact cMul_l (by omega) (by omega) | exact cMul_r (by omega) (by omega)) ?_) | (refine ey_mul (by first | rfl | exact cMul_l (by omega) (by omega) | exact cMul_r (by omega) (by omega)) ?_) | (refine ew_neg ?_) | (refine ey_neg ?_) | (refine ew_iB ?_) | (refine ey_iB ?_) | (refine ⟨_, by rfl, ?_⟩) | (refine ⟨(show List.length _ = _ from rfl), ?_⟩) | (simp only [wip, resto, List.getElem?_cons_zero, List.getElem?_cons_succ, Option.join_some, Option.join_none, Int.reduceToNat, seqK_nx, seqK_rt, turnK_nx, turnK_ct, maxI_eq, minI_eq, izs_len, fz_tup, fz_lst, fz_dic, fzs_eds, fzs_izs, fzs_nil, fzs_cons, takeArgs, refPos, refsOf, putBack, List.set_cons_zero, List.set_cons_succ, fz_int, fz_bl, fz_non])))
    refine ⟨by rfl, size_le (by have := (hL2 l lm).1; omega), fun d => match d with | .int j => decide (j < 0 + (i : Int)) | _ => false, fun d => match d with | .int j => .int (hs.getD j.toNat 0) | _ => .non, fun d hd => ?_, ?_⟩
    · obtain ⟨j, hj, rfl⟩ := List.mem_map.mp hd
      obtain ⟨j0, j1⟩ := (hL2 l lm).2 j hj
      (repeat (first | (refine Q.seq ?_) | (refine Q.asg ?_) | (refine Q.ret ?_) | (refine Q.drop ?_) | (refine Q.nxt ?_) | (refine Q.setB rfl ?_) | (refine Q.val (by rfl) (by first | rfl | (simp only [cln_tup, cln_lst, clns_cons, clns_nil, clns_izs, clns_eds, cln_edge, cln_int, Bool.and_self, Bool.not_false, Bool.and_true, Bool.true_and]; first | done | fail)) ?_) | (refine Q.valv (by rfl) ?_) | (refine Q.takeI (by rfl) ?_) | (refine Q.consA ?_) | (refine Q.consO ?_) | (refine Q.nilO ?_) | (refine Q.nilP ?_) | (refine Q.tupM ?_) | (refine Q.lstM ?_) | (refine Q.dicE ?_) | (refine Q.call ?_) | (refine Q.refA (by rfl) ?_) | (refine Q.subI (by rfl) ?_) | (refine Q.valA ?_) | (refine Q.nilA ?_) | (refine Q.op2 ?_) | (refine Q.un ?_) | (refine Q.callA ?_) | (refine Q.callS ?_) | (refine Q.forS ?_) | (refine Q.iter ?_) | (refine Q.rng1 ?_) | (refine Q.rng2 ?_) | (refine Q.gtup rfl ?_) | (refine Q.gcons ?_) | (refine Q.gnil ?_) | (refine Q.put0 (by rfl) ?_) | (refine retK_rt (by rfl) ?_) | (refine ⟨Nat.le_of_ble_eq_true rfl, ?_⟩) | (refine ⟨_, rfl, big_ok (by omega) (by omega), ?_⟩) | (refine ⟨_, _, rfl, Bool.and_eq_true_iff.mpr ⟨big_ok (by omega) (by omega), big_ok (by omega) (by omega)⟩, ?_⟩) | (refine Q.truP ?_) | (refine Q.mbl ?_) | (refine Q.mtru ?_) | (refine Q.mnot ?_) | (refine Q.mor ?_) | (refine Q.mand ?_) | (refine ⟨by rfl, _, _, by rfl, ?_⟩) | (refine ⟨_, _, _, by rfl, by rfl, ?_⟩) | (refine ew_add ?_) | (refine ey_add ?_) | (refine ew_ii (by first | rfl | exact decide_eq_true (by omega) | exact cMul_l (by omega) (by omega) | exact cMul_r (by omega) (by omega)) ?_) | (refine ew_mul (by first | rfl | exact cMul_l (by omega) (by omega) | exact cMul_r (by omega) (by omega)) ?_) | (refine ey_ii (by first | rfl | exact decide_eq_true (by omega) | exact cMul_l (by omega) (by omega) | exact cMul_r (by omega) (by omega)) ?_) | (refine ey_mul (by first | rfl | exact cMul_l (by omega) (by omega) | exact cMul_r (by omega) (by omega)) ?_) | (refine ew_neg ?_) | (refine ey_neg ?_) | (refine ew_iB ?_) | (refine ey_iB ?_) | (refine ⟨_, by rfl, ?_⟩) | (refine ⟨(show List.length _ = _ from rfl), ?_⟩) | (simp only [wip, resto, List.getElem?_cons_zero, List.getElem?_cons_succ, Option.join_some, Option.join_none, Int.reduceToNat, seqK_nx, seqK_rt, turnK_nx, turnK_ct, maxI_eq, minI_eq, izs_len, fz_tup, fz_lst, fz_dic, fzs_eds, fzs_izs, fzs_nil, fzs_cons, takeArgs, refPos, refsOf, putBack, List.set_cons_zero, List.set_cons_succ, fz_int, fz_bl, fz_non])))
      refine Q.tst (c := decide (j < 0 + (i : Int))) (by rfl) ⟨rfl, ?_⟩
      split
      · rename_i hji
        obtain ⟨x, x1, _, x2⟩ := atI_izs (xs := hs) (i := j) j0 (by have := of_decide_eq_true hji; omega)
        (refine Q.val (by (simp (disch := omega) only [Int.reduceToNat, atI_z, atI_1, atI_2, List.set_cons_zero, List.set_cons_succ, pOp2, pVar, pCst, pCall, pCons, pNil, pBl, pTru, pNotB, pAndB, pOrB, pAnd, pOr, pNot, pChain, pIf, pUn, pSnoc, iiI, iiB, subX, lenX, blX, truD, seqD, negX, intX, List.getElem?_cons_zero, List.getElem?_cons_succ, List.nil_append, List.cons_append, Int.reduceLT, Int.reduceLE, and_self, and_true, true_and, Bool.and_true, Bool.true_and, decide_eq_true_eq, if_true, if_pos, decide_true, Option.map_some, Bool.false_eq_true, if_false, maxX, minX, x2]) <;> rfl) (by rfl) ?_)
        exact ⟨by rw [getD_of x1], rfl⟩
      · rfl
    rw [pick_izs (c' := fun j => decide (j < 0 + (i : Int))) (f' := fun j => hs.getD j.toNat 0) (fun _ => rfl) (fun _ => rfl)]
    generalize (l.filter fun j => decide (j < 0 + (i : Int))).map (fun j => hs.getD j.toNat 0) = bar
    (repeat (first | (refine Q.seq ?_) | (refine Q.asg ?_) | (refine Q.ret ?_) | (refine Q.drop ?_) | (refine Q.nxt ?_) | (refine Q.setB rfl ?_) | (refine Q.val (by rfl) (by first | rfl | (simp only [cln_tup, cln_lst, clns_cons, clns_nil, clns_izs, clns_eds, cln_edge, cln_int, Bool.and_self, Bool.not_false, Bool.and_true, Bool.true_and]; first | done | fail)) ?_) | (refine Q.valv (by rfl) ?_) | (refine Q.takeI (by rfl) ?_) | (refine Q.consA ?_) | (refine Q.consO ?_) | (refine Q.nilO ?_) | (refine Q.nilP ?_) | (refine Q.tupM ?_) | (refine Q.lstM ?_) | (refine Q.dicE ?_) | (refine Q.call ?_) | (refine Q.refA (by rfl) ?_) | (refine Q.subI (by rfl) ?_) | (refine Q.valA ?_) | (refine Q.nilA ?_) | (refine Q.op2 ?_) | (refine Q.un ?_) | (refine Q.callA ?_) | (refine Q.callS ?_) | (refine Q.forS ?_) | (refine Q.iter ?_) | (refine Q.rng1 ?_) | (refine Q.rng2 ?_) | (refine Q.gtup rfl ?_) | (refine Q.gcons ?_) | (refine Q.gnil ?_) | (refine Q.put0 (by rfl) ?_) | (refine retK_rt (by rfl) ?_) | (refine ⟨Nat.le_of_ble_eq_true rfl, ?_⟩) | (refine ⟨_, rfl, big_ok (by omega) (by omega), ?_⟩) | (refine ⟨_, _, rfl, Bool.and_eq_true_iff.mpr ⟨big_ok (by omega) (by omega), big_ok (by omega) (by omega)⟩, ?_⟩) | (refine Q.truP ?_) | (refine Q.mbl ?_) | (refine Q.mtru ?_) | (refine Q.mnot ?_) | (refine Q.mor ?_) | (refine Q.mand ?_) | (refine ⟨by rfl, _, _, by rfl, ?_⟩) | (refine ⟨_, _, _, by rfl, by rfl, ?_⟩) | (refine ew_add ?_) | (refine ey_add ?_) | (refine ew_ii (by first | rfl | exact decide_eq_true (by omega) | exact cMul_l (by omega) (by omega) | exact cMul_r (by omega) (by omega)) ?_) | (refine ew_mul (by first | rfl | exact cMul_l (by omega) (by omega) | exact cMul_r (by omega) (by omega)) ?_) | (refine ey_ii (by first | rfl | exact decide_eq_true (by omega) | exact cMul_l (by omega) (by omega) | exact cMul_r (by omega) (by omega)) ?_) | (refine ey_mul (by first | rfl | exact cMul_l (by omega) (by omega) | exact cMul_r (by omega) (by omega)) ?_) | (refine ew_neg ?_) | (refine ey_neg ?_) | (refine ew_iB ?_) | (refine ey_iB ?_) | (refine ⟨_, by rfl, ?_⟩) | (refine ⟨(show List.length _ = _ from rfl), ?_⟩) | (simp only [wip, resto, List.getElem?_cons_zero, List.getElem?_cons_succ, Option.join_some, Option.join_none, Int.reduceToNat, seqK_nx, seqK_rt, turnK_nx, turnK_ct, maxI_eq, minI_eq, izs_len, fz_tup, fz_lst, fz_dic, fzs_eds, fzs_izs, fzs_nil, fzs_cons, takeArgs, refPos, refsOf, putBack, List.set_cons_zero, List.set_cons_succ, fz_int, fz_bl, fz_non])))
    refine Q.lcT ?_
    (repeat (first | (refine Q.seq ?_) | (refine Q.asg ?_) | (refine Q.ret ?_) | (refine Q.drop ?_) | (refine Q.nxt ?_) | (refine Q.setB rfl ?_) | (refine Q.val (by rfl) (by first | rfl | (simp only [cln_tup, cln_lst, clns_cons, clns_nil, clns_izs, clns_eds, cln_edge, cln_int, Bool.and_self, Bool.not_false, Bool.and_true, Bool.true_and]; first | done | fail)) ?_) | (refine Q.valv (by rfl) ?_) | (refine Q.takeI (by rfl) ?_) | (refine Q.consA ?_) | (refine Q.consO ?_) | (refine Q.nilO ?_) | (refine Q.nilP ?_) | (refine Q.tupM ?_) | (refine Q.lstM ?_) | (refine Q.dicE ?_) | (refine Q.call ?_) | (refine Q.refA (by rfl) ?_) | (refine Q.subI (by rfl) ?_) | (refine Q.valA ?_) | (refine Q.nilA ?_) | (refine Q.op2 ?_) | (refine Q.un ?_) | (refine Q.callA ?_) | (refine Q.callS ?_) | (refine Q.forS ?_) | (refine Q.iter ?_) | (refine Q.rng1 ?_) | (refine Q.rng2 ?_) | (refine Q.gtup rfl ?_) | (refine Q.gcons ?_) | (refine Q.gnil ?_) | (refine Q.put0 (by rfl) ?_) | (refine retK_rt (by rfl) ?_) | (refine ⟨Nat.le_of_ble_eq_true rfl, ?_⟩) | (refine ⟨_, rfl, big_ok (by omega) (by omega), ?_⟩) | (refine ⟨_, _, rfl, Bool.and_eq_true_iff.mpr ⟨big_ok (by omega) (by omega), big_ok (by omega) (by omega)⟩, ?_⟩) | (refine Q.truP ?_) | (refine Q.mbl ?_) | (refine Q.mtru ?_) | (refine Q.mnot ?_) | (refine Q.mor ?_) | (refine Q.mand ?_) | (refine ⟨by rfl, _, _, by rfl, ?_⟩) | (refine ⟨_, _, _, by rfl, by rfl, ?_⟩) | (refine ew_add ?_) | (refine ey_add ?_) | (refine ew_ii (by first | rfl | exact decide_eq_true (by omega) | exact cMul_l (by omega) (by omega) | exact cMul_r (by omega) (by omega)) ?_) | (refine ew_mul (by first | rfl | exact cMul_l (by omega) (by omega) | exact cMul_r (by omega) (by omega)) ?_) | (refine ey_ii (by first | rfl | exact decide_eq_true (by omega) | exact cMul_l (by omega) (by omega) | exact cMul_r (by omega) (by omega)) ?_) | (refine ey_mul (by first | rfl | exact cMul_l (by omega) (by omega) | exact cMul_r (by omega) (by omega)) ?_) | (refine ew_neg ?_) | (refine ey_neg ?_) | (refine ew_iB ?_) | (refine ey_iB ?_) | (refine ⟨_, by rfl, ?_⟩) | (refine ⟨(show List.length _ = _ from rfl), ?_⟩) | (simp only [wip, resto, List.getElem?_cons_zero, List.getElem?_cons_succ, Option.join_some, Option.join_none, Int.reduceToNat, seqK_nx, seqK_rt, turnK_nx, turnK_ct, maxI_eq, minI_eq, izs_len, fz_tup, fz_lst, fz_dic, fzs_eds, fzs_izs, fzs_nil, fzs_cons, takeArgs, refPos, refsOf, putBack, List.set_cons_zero, List.set_cons_succ, fz_int, fz_bl, fz_non])))
    refine ⟨by rfl, size_le (by rw [rngD_len]; omega), fun d => match d with | .int j => !decide (j ∈ bar) | _ => false, fun d => d, fun d hd => ?_, ?_⟩
    · obtain ⟨j, rfl, hj⟩ := mem_rng hd
      (repeat (first | (refine Q.seq ?_) | (refine Q.asg ?_) | (refine Q.ret ?_) | (refine Q.drop ?_) | (refine Q.nxt ?_) | (refine Q.setB rfl ?_) | (refine Q.val (by rfl) (by first | rfl | (simp only [cln_tup, cln_lst, clns_cons, clns_nil, clns_izs, clns_eds, cln_edge, cln_int, Bool.and_self, Bool.not_false, Bool.and_true, Bool.true_and]; first | done | fail)) ?_) | (refine Q.valv (by rfl) ?_) | (refine Q.takeI (by rfl) ?_) | (refine Q.consA ?_) | (refine Q.consO ?_) | (refine Q.nilO ?_) | (refine Q.nilP ?_) | (refine Q.tupM ?_) | (refine Q.lstM ?_) | (refine Q.dicE ?_) | (refine Q.call ?_) | (refine Q.refA (by rfl) ?_) | (refine Q.subI (by rfl) ?_) | (refine Q.valA ?_) | (refine Q.nilA ?_) | (refine Q.op2 ?_) | (refine Q.un ?_) | (refine Q.callA ?_) | (refine Q.callS ?_) | (refine Q.forS ?_) | (refine Q.iter ?_) | (refine Q.rng1 ?_) | (refine Q.rng2 ?_) | (refine Q.gtup rfl ?_) | (refine Q.gcons ?_) | (refine Q.gnil ?_) | (refine Q.put0 (by rfl) ?_) | (refine retK_rt (by rfl) ?_) | (refine ⟨Nat.le_of_ble_eq_true rfl, ?_⟩) | (refine ⟨_, rfl, big_ok (by omega) (by omega), ?_⟩) | (refine ⟨_, _, rfl, Bool.and_eq_true_iff.mpr ⟨big_ok (by omega) (by omega), big_ok (by omega) (by omega)⟩, ?_⟩) | (refine Q.truP ?_) | (refine Q.mbl ?_) | (refine Q.mtru ?_) | (refine Q.mnot ?_) | (refine Q.mor ?_) | (refine Q.mand ?_) | (refine ⟨by rfl, _, _, by rfl, ?_⟩) | (refine ⟨_, _, _, by rfl, by rfl, ?_⟩) | (refine ew_add ?_) | (refine ey_add ?_) | (refine ew_ii (by first | rfl | exact decide_eq_true (by omega) | exact cMul_l (by omega) (by omega) | exact cMul_r (by omega) (by omega)) ?_) | (refine ew_mul (by first | rfl | exact cMul_l (by omega) (by omega) | exact cMul_r (by omega) (by omega)) ?_) | (refine ey_ii (by first | rfl | exact decide_eq_true (by omega) | exact cMul_l (by omega) (by omega) | exact cMul_r (by omega) (by omega)) ?_) | (refine ey_mul (by first | rfl | exact cMul_l (by omega) (by omega) | exact cMul_r (by omega) (by omega)) ?_) | (refine ew_neg ?_) | (refine ey_neg ?_) | (refine ew_iB ?_) | (refine ey_iB ?_) | (refine ⟨_, by rfl, ?_⟩) | (refine ⟨(show List.length _ = _ from rfl), ?_⟩) | (simp only [wip, resto, List.getElem?_cons_zero, List.getElem?_cons_succ, Option.join_some, Option.join_none, Int.reduceToNat, seqK_nx, seqK_rt, turnK_nx, turnK_ct, maxI_eq, minI_eq, izs_len, fz_tup, fz_lst, fz_dic, fzs_eds, fzs_izs, fzs_nil, fzs_cons, takeArgs, refPos, refsOf, putBack, List.set_cons_zero, List.set_cons_succ, fz_int, fz_bl, fz_non])))
      refine Q.tst (c := !decide (0 + (j : Int) ∈ bar)) (by (simp (disch := omega) only [Int.reduceToNat, atI_z, atI_1, atI_2, List.set_cons_zero, List.set_cons_succ, pOp2, pVar, pCst, pCall, pCons, pNil, pBl, pTru, pNotB, pAndB, pOrB, pAnd, pOr, pNot, pChain, pIf, pUn, pSnoc, iiI, iiB, subX, lenX, blX, truD, seqD, negX, intX, List.getElem?_cons_zero, List.getElem?_cons_succ, List.nil_append, List.cons_append, Int.reduceLT, Int.reduceLE, and_self, and_true, true_and, Bool.and_true, Bool.true_and, decide_eq_true_eq, if_true, if_pos, decide_true, Option.map_some, Bool.false_eq_true, if_false, maxX, minX, in_izs, Bool.true_xor]) <;> rfl) ⟨rfl, ?_⟩
      split
      · (repeat (first | (refine Q.seq ?_) | (refine Q.asg ?_) | (refine Q.ret ?_) | (refine Q.drop ?_) | (refine Q.nxt ?_) | (refine Q.setB rfl ?_) | (refine Q.val (by rfl) (by first | rfl | (simp only [cln_tup, cln_lst, clns_cons, clns_nil, clns_izs, clns_eds, cln_edge, cln_int, Bool.and_self, Bool.not_false, Bool.and_true, Bool.true_and]; first | done | fail)) ?_) | (refine Q.valv (by rfl) ?_) | (refine Q.takeI (by rfl) ?_) | (refine Q.consA ?_) | (refine Q.consO ?_) | (refine Q.nilO ?_) | (refine Q.nilP ?_) | (refine Q.tupM ?_) | (refine Q.lstM ?_) | (refine Q.dicE ?_) | (refine Q.call ?_) | (refine Q.refA (by rfl) ?_) | (refine Q.subI (by rfl) ?_) | (refine Q.valA ?_) | (refine Q.nilA ?_) | (refine Q.op2 ?_) | (refine Q.un ?_) | (refine Q.callA ?_) | (refine Q.callS ?_) | (refine Q.forS ?_) | (refine Q.iter ?_) | (refine Q.rng1 ?_) | (refine Q.rng2 ?_) | (refine Q.gtup rfl ?_) | (refine Q.gcons ?_) | (refine Q.gnil ?_) | (refine Q.put0 (by rfl) ?_) | (refine retK_rt (by rfl) ?_) | (refine ⟨Nat.le_of_ble_eq_true rfl, ?_⟩) | (refine ⟨_, rfl, big_ok (by omega) (by omega), ?_⟩) | (refine ⟨_, _, rfl, Bool.and_eq_true_iff.mpr ⟨big_ok (by omega) (by omega), big_ok (by omega) (by omega)⟩, ?_⟩) | (refine Q.truP ?_) | (refine Q.mbl ?_) | (refine Q.mtru ?_) | (refine Q.mnot ?_) | (refine Q.mor ?_) | (refine Q.mand ?_) | (refine ⟨by rfl, _, _, by rfl, ?_⟩) | (refine ⟨_, _, _, by rfl, by rfl, ?_⟩) | (refine ew_add ?_) | (refine ey_add ?_) | (refine ew_ii (by first | rfl | exact decide_eq_true (by omega) | exact cMul_l (by omega) (by omega) | exact cMul_r (by omega) (by omega)) ?_) | (refine ew_mul (by first | rfl | exact cMul_l (by omega) (by omega) | exact cMul_r (by omega) (by omega)) ?_) | (refine ey_ii (by first | rfl | exact decide_eq_true (by omega) | exact cMul_l (by omega) (by omega) | exact cMul_r (by omega) (by omega)) ?_) | (refine ey_mul (by first | rfl | exact cMul_l (by omega) (by omega) | exact cMul_r (by omega) (by omega)) ?_) | (refine ew_neg ?_) | (refine ey_neg ?_) | (refine ew_iB ?_) | (refine ey_iB ?_) | (refine ⟨_, by rfl, ?_⟩) | (refine ⟨(show List.length _ = _ from rfl), ?_⟩) | (simp only [wip, resto, List.getElem?_cons_zero, List.getElem?_cons_succ, Option.join_some, Option.join_none, Int.reduceToNat, seqK_nx, seqK_rt, turnK_nx, turnK_ct, maxI_eq, minI_eq, izs_len, fz_tup, fz_lst, fz_dic, fzs_eds, fzs_izs, fzs_nil, fzs_cons, takeArgs, refPos, refsOf, putBack, List.set_cons_zero, List.set_cons_succ, fz_int, fz_bl, fz_non])))
        exact ⟨trivial, trivial⟩
      · rfl
    rw [rngD_izs, pick_izs (c' := fun j => !decide (j ∈ bar)) (f' := fun j => j) (fun _ => rfl) (fun _ => rfl), List.map_id']
    generalize hlet : ((List.range k.toNat).map fun (k : Nat) => 0 + (k : Int)).filter (fun j => !decide (j ∈ bar)) = lt
    (repeat (first | (refine Q.seq ?_) | (refine Q.asg ?_) | (refine Q.ret ?_) | (refine Q.drop ?_) | (refine Q.nxt ?_) | (refine Q.setB rfl ?_) | (refine Q.val (by rfl) (by first | rfl | (simp only [cln_tup, cln_lst, clns_cons, clns_nil, clns_izs, clns_eds, cln_edge, cln_int, Bool.and_self, Bool.not_false, Bool.and_true, Bool.true_and]; first | done | fail)) ?_) | (refine Q.valv (by rfl) ?_) | (refine Q.takeI (by rfl) ?_) | (refine Q.consA ?_) | (refine Q.consO ?_) | (refine Q.nilO ?_) | (refine Q.nilP ?_) | (refine Q.tupM ?_) | (refine Q.lstM ?_) | (refine Q.dicE ?_) | (refine Q.call ?_) | (refine Q.refA (by rfl) ?_) | (refine Q.subI (by rfl) ?_) | (refine Q.valA ?_) | (refine Q.nilA ?_) | (refine Q.op2 ?_) | (refine Q.un ?_) | (refine Q.callA ?_) | (refine Q.callS ?_) | (refine Q.forS ?_) | (refine Q.iter ?_) | (refine Q.rng1 ?_) | (refine Q.rng2 ?_) | (refine Q.gtup rfl ?_) | (refine Q.gcons ?_) | (refine Q.gnil ?_) | (refine Q.put0 (by rfl) ?_) | (refine retK_rt (by rfl) ?_) | (refine ⟨Nat.le_of_ble_eq_true rfl, ?_⟩) | (refine ⟨_, rfl, big_ok (by omega) (by omega), ?_⟩) | (refine ⟨_, _, rfl, Bool.and_eq_true_iff.mpr ⟨big_ok (by omega) (by omega), big_ok (by omega) (by omega)⟩, ?_⟩) | (refine Q.truP ?_) | (refine Q.mbl ?_) | (refine Q.mtru ?_) | (refine Q.mnot ?_) | (refine Q.mor ?_) | (refine Q.mand ?_) | (refine ⟨by rfl, _, _, by rfl, ?_⟩) | (refine ⟨_, _, _, by rfl, by rfl, ?_⟩) | (refine ew_add ?_) | (refine ey_add ?_) | (refine ew_ii (by first | rfl | exact decide_eq_true (by omega) | exact cMul_l (by omega) (by omega) | exact cMul_r (by omega) (by omega)) ?_) | (refine ew_mul (by first | rfl | exact cMul_l (by omega) (by omega) | exact cMul_r (by omega) (by omega)) ?_) | (refine ey_ii (by first | rfl | exact decide_eq_true (by omega) | exact cMul_l (by omega) (by omega) | exact cMul_r (by omega) (by omega)) ?_) | (refine ey_mul (by first | rfl | exact cMul_l (by omega) (by omega) | exact cMul_r (by omega) (by omega)) ?_) | (refine ew_neg ?_) | (refine ey_neg ?_) | (refine ew_iB ?_) | (refine ey_iB ?_) | (refine ⟨_, by rfl, ?_⟩) | (refine ⟨(show List.length _ = _ from rfl), ?_⟩) | (simp only [wip, resto, List.getElem?_cons_zero, List.getElem?_cons_succ, Option.join_some, Option.join_none, Int.reduceToNat, seqK_nx, seqK_rt, turnK_nx, turnK_ct, maxI_eq, minI_eq, izs_len, fz_tup, fz_lst, fz_dic, fzs_eds, fzs_izs, fzs_nil, fzs_cons, takeArgs, refPos, refsOf, putBack, List.set_cons_zero, List.set_cons_succ, fz_int, fz_bl, fz_non])))
    have hlt : lt.length ≤ 1000 := by rw [← hlet]; refine Nat.le_trans (List.length_filter_le _ _) ?_; rw [List.length_map, List.length_range]; omega
    refine cutH (fun f Γ1 => f = .nx ∧ ∃ lt : List Int, lt ≠ [] ∧ lt.length ≤ 2000 ∧ ∃ o', Γ1 = [some p, some (webD n es), some (.int k), some (lsO false L), some (.lst true (izs hs)), some (.int (0 + (i : Int))), some (.lst true (izs bar)), some (.lst o' (izs lt)), none, none]) ?_ ?_
    · refine Q.ifC (decide (lt = [])) [some p, some (webD n es), some (.int k), some (lsO false L), some (.lst true (izs hs)), some (.int (0 + (i : Int))), some (.lst true (izs bar)), some (.lst false (izs lt)), none, none] ?_ (fun hc => ?_) (fun hc => ?_)
      · (repeat (first | (refine Q.seq ?_) | (refine Q.asg ?_) | (refine Q.ret ?_) | (refine Q.drop ?_) | (refine Q.nxt ?_) | (refine Q.setB rfl ?_) | (refine Q.val (by rfl) (by first | rfl | (simp only [cln_tup, cln_lst, clns_cons, clns_nil, clns_izs, clns_eds, cln_edge, cln_int, Bool.and_self, Bool.not_false, Bool.and_true, Bool.true_and]; first | done | fail)) ?_) | (refine Q.valv (by rfl) ?_) | (refine Q.takeI (by rfl) ?_) | (refine Q.consA ?_) | (refine Q.consO ?_) | (refine Q.nilO ?_) | (refine Q.nilP ?_) | (refine Q.tupM ?_) | (refine Q.lstM ?_) | (refine Q.dicE ?_) | (refine Q.call ?_) | (refine Q.refA (by rfl) ?_) | (refine Q.subI (by rfl) ?_) | (refine Q.valA ?_) | (refine Q.nilA ?_) | (refine Q.op2 ?_) | (refine Q.un ?_) | (refine Q.callA ?_) | (refine Q.callS ?_) | (refine Q.forS ?_) | (refine Q.iter ?_) | (refine Q.rng1 ?_) | (refine Q.rng2 ?_) | (refine Q.gtup rfl ?_) | (refine Q.gcons ?_) | (refine Q.gnil ?_) | (refine Q.put0 (by rfl) ?_) | (refine retK_rt (by rfl) ?_) | (refine ⟨Nat.le_of_ble_eq_true rfl, ?_⟩) | (refine ⟨_, rfl, big_ok (by omega) (by omega), ?_⟩) | (refine ⟨_, _, rfl, Bool.and_eq_true_iff.mpr ⟨big_ok (by omega) (by omega), big_ok (by omega) (by omega)⟩, ?_⟩) | (refine Q.truP ?_) | (refine Q.mbl ?_) | (refine Q.mtru ?_) | (refine Q.mnot ?_) | (refine Q.mor ?_) | (refine Q.mand ?_) | (refine ⟨by rfl, _, _, by rfl, ?_⟩) | (refine ⟨_, _, _, by rfl, by rfl, ?_⟩) | (refine ew_add ?_) | (refine ey_add ?_) | (refine ew_ii (by first | rfl | exact decide_eq_true (by omega) | exact cMul_l (by omega) (by omega) | exact cMul_r (by omega) (by omega)) ?_) | (refine ew_mul (by first | rfl | exact cMul_l (by omega) (by omega) | exact cMul_r (by omega) (by omega)) ?_) | (refine ey_ii (by first | rfl | exact decide_eq_true (by omega) | exact cMul_l (by omega) (by omega) | exact cMul_r (by omega) (by omega)) ?_) | (refine ey_mul (by first | rfl | exact cMul_l (by omega) (by omega) | exact cMul_r (by omega) (by omega)) ?_) | (refine ew_neg ?_) | (refine ey_neg ?_) | (refine ew_iB ?_) | (refine ey_iB ?_) | (refine ⟨_, by rfl, ?_⟩) | (refine ⟨(show List.length _ = _ from rfl), ?_⟩) | (simp only [wip, resto, List.getElem?_cons_zero, List.getElem?_cons_succ, Option.join_some, Option.join_none, Int.reduceToNat, seqK_nx, seqK_rt, turnK_nx, turnK_ct, maxI_eq, minI_eq, izs_len, fz_tup, fz_lst, fz_dic, fzs_eds, fzs_izs, fzs_nil, fzs_cons, takeArgs, refPos, refsOf, putBack, List.set_cons_zero, List.set_cons_succ, fz_int, fz_bl, fz_non])))
        refine ⟨_, by (unfold gC; rw [eqX_lst0]) <;> rfl, _, rfl, rfl, trivial⟩
      · (repeat (first | (refine Q.seq ?_) | (refine Q.asg ?_) | (refine Q.ret ?_) | (refine Q.drop ?_) | (refine Q.nxt ?_) | (refine Q.setB rfl ?_) | (refine Q.val (by rfl) (by first | rfl | (simp only [cln_tup, cln_lst, clns_cons, clns_nil, clns_izs, clns_eds, cln_edge, cln_int, Bool.and_self, Bool.not_false, Bool.and_true, Bool.true_and]; first | done | fail)) ?_) | (refine Q.valv (by rfl) ?_) | (refine Q.takeI (by rfl) ?_) | (refine Q.consA ?_) | (refine Q.consO ?_) | (refine Q.nilO ?_) | (refine Q.nilP ?_) | (refine Q.tupM ?_) | (refine Q.lstM ?_) | (refine Q.dicE ?_) | (refine Q.call ?_) | (refine Q.refA (by rfl) ?_) | (refine Q.subI (by rfl) ?_) | (refine Q.valA ?_) | (refine Q.nilA ?_) | (refine Q.op2 ?_) | (refine Q.un ?_) | (refine Q.callA ?_) | (refine Q.callS ?_) | (refine Q.forS ?_) | (refine Q.iter ?_) | (refine Q.rng1 ?_) | (refine Q.rng2 ?_) | (refine Q.gtup rfl ?_) | (refine Q.gcons ?_) | (refine Q.gnil ?_) | (refine Q.put0 (by rfl) ?_) | (refine retK_rt (by rfl) ?_) | (refine ⟨Nat.le_of_ble_eq_true rfl, ?_⟩) | (refine ⟨_, rfl, big_ok (by omega) (by omega), ?_⟩) | (refine ⟨_, _, rfl, Bool.and_eq_true_iff.mpr ⟨big_ok (by omega) (by omega), big_ok (by omega) (by omega)⟩, ?_⟩) | (refine Q.truP ?_) | (refine Q.mbl ?_) | (refine Q.mtru ?_) | (refine Q.mnot ?_) | (refine Q.mor ?_) | (refine Q.mand ?_) | (refine ⟨by rfl, _, _, by rfl, ?_⟩) | (refine ⟨_, _, _, by rfl, by rfl, ?_⟩) | (refine ew_add ?_) | (refine ey_add ?_) | (refine ew_ii (by first | rfl | exact decide_eq_true (by omega) | exact cMul_l (by omega) (by omega) | exact cMul_r (by omega) (by omega)) ?_) | (refine ew_mul (by first | rfl | exact cMul_l (by omega) (by omega) | exact cMul_r (by omega) (by omega)) ?_) | (refine ey_ii (by first | rfl | exact decide_eq_true (by omega) | exact cMul_l (by omega) (by omega) | exact cMul_r (by omega) (by omega)) ?_) | (refine ey_mul (by first | rfl | exact cMul_l (by omega) (by omega) | exact cMul_r (by omega) (by omega)) ?_) | (refine ew_neg ?_) | (refine ey_neg ?_) | (refine ew_iB ?_) | (refine ey_iB ?_) | (refine ⟨_, by rfl, ?_⟩) | (refine ⟨(show List.length _ = _ from rfl), ?_⟩) | (simp only [wip, resto, List.getElem?_cons_zero, List.getElem?_cons_succ, Option.join_some, Option.join_none, Int.reduceToNat, seqK_nx, seqK_rt, turnK_nx, turnK_ct, maxI_eq, minI_eq, izs_len, fz_tup, fz_lst, fz_dic, fzs_eds, fzs_izs, fzs_nil, fzs_cons, takeArgs, refPos, refsOf, putBack, List.set_cons_zero, List.set_cons_succ, fz_int, fz_bl, fz_non])))
        refine Q.lrg1 ?_
        (repeat (first | (refine Q.seq ?_) | (refine Q.asg ?_) | (refine Q.ret ?_) | (refine Q.drop ?_) | (refine Q.nxt ?_) | (refine Q.setB rfl ?_) | (refine Q.val (by rfl) (by first | rfl | (simp only [cln_tup, cln_lst, clns_cons, clns_nil, clns_izs, clns_eds, cln_edge, cln_int, Bool.and_self, Bool.not_false, Bool.and_true, Bool.true_and]; first | done | fail)) ?_) | (refine Q.valv (by rfl) ?_) | (refine Q.takeI (by rfl) ?_) | (refine Q.consA ?_) | (refine Q.consO ?_) | (refine Q.nilO ?_) | (refine Q.nilP ?_) | (refine Q.tupM ?_) | (refine Q.lstM ?_) | (refine Q.dicE ?_) | (refine Q.call ?_) | (refine Q.refA (by rfl) ?_) | (refine Q.subI (by rfl) ?_) | (refine Q.valA ?_) | (refine Q.nilA ?_) | (refine Q.op2 ?_) | (refine Q.un ?_) | (refine Q.callA ?_) | (refine Q.callS ?_) | (refine Q.forS ?_) | (refine Q.iter ?_) | (refine Q.rng1 ?_) | (refine Q.rng2 ?_) | (refine Q.gtup rfl ?_) | (refine Q.gcons ?_) | (refine Q.gnil ?_) | (refine Q.put0 (by rfl) ?_) | (refine retK_rt (by rfl) ?_) | (refine ⟨Nat.le_of_ble_eq_true rfl, ?_⟩) | (refine ⟨_, rfl, big_ok (by omega) (by omega), ?_⟩) | (refine ⟨_, _, rfl, Bool.and_eq_true_iff.mpr ⟨big_ok (by omega) (by omega), big_ok (by omega) (by omega)⟩, ?_⟩) | (refine Q.truP ?_) | (refine Q.mbl ?_) | (refine Q.mtru ?_) | (refine Q.mnot ?_) | (refine Q.mor ?_) | (refine Q.mand ?_) | (refine ⟨by rfl, _, _, by rfl, ?_⟩) | (refine ⟨_, _, _, by rfl, by rfl, ?_⟩) | (refine ew_add ?_) | (refine ey_add ?_) | (refine ew_ii (by first | rfl | exact decide_eq_true (by omega) | exact cMul_l (by omega) (by omega) | exact cMul_r (by omega) (by omega)) ?_) | (refine ew_mul (by first | rfl | exact cMul_l (by omega) (by omega) | exact cMul_r (by omega) (by omega)) ?_) | (refine ey_ii (by first | rfl | exact decide_eq_true (by omega) | exact cMul_l (by omega) (by omega) | exact cMul_r (by omega) (by omega)) ?_) | (refine ey_mul (by first | rfl | exact cMul_l (by omega) (by omega) | exact cMul_r (by omega) (by omega)) ?_) | (refine ew_neg ?_) | (refine ey_neg ?_) | (refine ew_iB ?_) | (refine ey_iB ?_) | (refine ⟨_, by rfl, ?_⟩) | (refine ⟨(show List.length _ = _ from rfl), ?_⟩) | (simp only [wip, resto, List.getElem?_cons_zero, List.getElem?_cons_succ, Option.join_some, Option.join_none, Int.reduceToNat, seqK_nx, seqK_rt, turnK_nx, turnK_ct, maxI_eq, minI_eq, izs_len, fz_tup, fz_lst, fz_dic, fzs_eds, fzs_izs, fzs_nil, fzs_cons, takeArgs, refPos, refsOf, putBack, List.set_cons_zero, List.set_cons_succ, fz_int, fz_bl, fz_non])))
        refine ⟨_, lrg1_ok (by omega) (by omega), ?_⟩
        (repeat (first | (refine Q.seq ?_) | (refine Q.asg ?_) | (refine Q.ret ?_) | (refine Q.drop ?_) | (refine Q.nxt ?_) | (refine Q.setB rfl ?_) | (refine Q.val (by rfl) (by first | rfl | (simp only [cln_tup, cln_lst, clns_cons, clns_nil, clns_izs, clns_eds, cln_edge, cln_int, Bool.and_self, Bool.not_false, Bool.and_true, Bool.true_and]; first | done | fail)) ?_) | (refine Q.valv (by rfl) ?_) | (refine Q.takeI (by rfl) ?_) | (refine Q.consA ?_) | (refine Q.consO ?_) | (refine Q.nilO ?_) | (refine Q.nilP ?_) | (refine Q.tupM ?_) | (refine Q.lstM ?_) | (refine Q.dicE ?_) | (refine Q.call ?_) | (refine Q.refA (by rfl) ?_) | (refine Q.subI (by rfl) ?_) | (refine Q.valA ?_) | (refine Q.nilA ?_) | (refine Q.op2 ?_) | (refine Q.un ?_) | (refine Q.callA ?_) | (refine Q.callS ?_) | (refine Q.forS ?_) | (refine Q.iter ?_) | (refine Q.rng1 ?_) | (refine Q.rng2 ?_) | (refine Q.gtup rfl ?_) | (refine Q.gcons ?_) | (refine Q.gnil ?_) | (refine Q.put0 (by rfl) ?_) | (refine retK_rt (by rfl) ?_) | (refine ⟨Nat.le_of_ble_eq_true rfl, ?_⟩) | (refine ⟨_, rfl, big_ok (by omega) (by omega), ?_⟩) | (refine ⟨_, _, rfl, Bool.and_eq_true_iff.mpr ⟨big_ok (by omega) (by omega), big_ok (by omega) (by omega)⟩, ?_⟩) | (refine Q.truP ?_) | (refine Q.mbl ?_) | (refine Q.mtru ?_) | (refine Q.mnot ?_) | (refine Q.mor ?_) | (refine Q.mand ?_) | (refine ⟨by rfl, _, _, by rfl, ?_⟩) | (refine ⟨_, _, _, by rfl, by rfl, ?_⟩) | (refine ew_add ?_) | (refine ey_add ?_) | (refine ew_ii (by first | rfl | exact decide_eq_true (by omega) | exact cMul_l (by omega) (by omega) | exact cMul_r (by omega) (by omega)) ?_) | (refine ew_mul (by first | rfl | exact cMul_l (by omega) (by omega) | exact cMul_r (by omega) (by omega)) ?_) | (refine ey_ii (by first | rfl | exact decide_eq_true (by omega) | exact cMul_l (by omega) (by omega) | exact cMul_r (by omega) (by omega)) ?_) | (refine ey_mul (by first | rfl | exact cMul_l (by omega) (by omega) | exact cMul_r (by omega) (by omega)) ?_) | (refine ew_neg ?_) | (refine ey_neg ?_) | (refine ew_iB ?_) | (refine ey_iB ?_) | (refine ⟨_, by rfl, ?_⟩) | (refine ⟨(show List.length _ = _ from rfl), ?_⟩) | (simp only [wip, resto, List.getElem?_cons_zero, List.getElem?_cons_succ, Option.join_some, Option.join_none, Int.reduceToNat, seqK_nx, seqK_rt, turnK_nx, turnK_ct, maxI_eq, minI_eq, izs_len, fz_tup, fz_lst, fz_dic, fzs_eds, fzs_izs, fzs_nil, fzs_cons, takeArgs, refPos, refsOf, putBack, List.set_cons_zero, List.set_cons_succ, fz_int, fz_bl, fz_non])))
        refine hold ⟨trivial, _, ?_, ?_, true, by rw [if_neg Bool.false_ne_true, rngD_izs]⟩
        · intro e
          have := congrArg List.length e
          rw [List.length_map, List.length_range] at this
          simp only [List.length_nil] at this
          omega
        · rw [List.length_map, List.length_range]
          omega
      · (repeat (first | (refine Q.seq ?_) | (refine Q.asg ?_) | (refine Q.ret ?_) | (refine Q.drop ?_) | (refine Q.nxt ?_) | (refine Q.setB rfl ?_) | (refine Q.val (by rfl) (by first | rfl | (simp only [cln_tup, cln_lst, clns_cons, clns_nil, clns_izs, clns_eds, cln_edge, cln_int, Bool.and_self, Bool.not_false, Bool.and_true, Bool.true_and]; first | done | fail)) ?_) | (refine Q.valv (by rfl) ?_) | (refine Q.takeI (by rfl) ?_) | (refine Q.consA ?_) | (refine Q.consO ?_) | (refine Q.nilO ?_) | (refine Q.nilP ?_) | (refine Q.tupM ?_) | (refine Q.lstM ?_) | (refine Q.dicE ?_) | (refine Q.call ?_) | (refine Q.refA (by rfl) ?_) | (refine Q.subI (by rfl) ?_) | (refine Q.valA ?_) | (refine Q.nilA ?_) | (refine Q.op2 ?_) | (refine Q.un ?_) | (refine Q.callA ?_) | (refine Q.callS ?_) | (refine Q.forS ?_) | (refine Q.iter ?_) | (refine Q.rng1 ?_) | (refine Q.rng2 ?_) | (refine Q.gtup rfl ?_) | (refine Q.gcons ?_) | (refine Q.gnil ?_) | (refine Q.put0 (by rfl) ?_) | (refine retK_rt (by rfl) ?_) | (refine ⟨Nat.le_of_ble_eq_true rfl, ?_⟩) | (refine ⟨_, rfl, big_ok (by omega) (by omega), ?_⟩) | (refine ⟨_, _, rfl, Bool.and_eq_true_iff.mpr ⟨big_ok (by omega) (by omega), big_ok (by omega) (by omega)⟩, ?_⟩) | (refine Q.truP ?_) | (refine Q.mbl ?_) | (refine Q.mtru ?_) | (refine Q.mnot ?_) | (refine Q.mor ?_) | (refine Q.mand ?_) | (refine ⟨by rfl, _, _, by rfl, ?_⟩) | (refine ⟨_, _, _, by rfl, by rfl, ?_⟩) | (refine ew_add ?_) | (refine ey_add ?_) | (refine ew_ii (by first | rfl | exact decide_eq_true (by omega) | exact cMul_l (by omega) (by omega) | exact cMul_r (by omega) (by omega)) ?_) | (refine ew_mul (by first | rfl | exact cMul_l (by omega) (by omega) | exact cMul_r (by omega) (by omega)) ?_) | (refine ey_ii (by first | rfl | exact decide_eq_true (by omega) | exact cMul_l (by omega) (by omega) | exact cMul_r (by omega) (by omega)) ?_) | (refine ey_mul (by first | rfl | exact cMul_l (by omega) (by omega) | exact cMul_r (by omega) (by omega)) ?_) | (refine ew_neg ?_) | (refine ey_neg ?_) | (refine ew_iB ?_) | (refine ey_iB ?_) | (refine ⟨_, by rfl, ?_⟩) | (refine ⟨(show List.length _ = _ from rfl), ?_⟩) | (simp only [wip, resto, List.getElem?_cons_zero, List.getElem?_cons_succ, Option.join_some, Option.join_none, Int.reduceToNat, seqK_nx, seqK_rt, turnK_nx, turnK_ct, maxI_eq, minI_eq, izs_len, fz_tup, fz_lst, fz_dic, fzs_eds, fzs_izs, fzs_nil, fzs_cons, takeArgs, refPos, refsOf, putBack, List.set_cons_zero, List.set_cons_succ, fz_int, fz_bl, fz_non])))
        exact hold ⟨trivial, lt, of_decide_eq_false hc, by omega, _, rfl⟩
    rintro _ _ ⟨rfl, lt, h1, h2, o', rfl⟩
    (repeat (first | (refine Q.seq ?_) | (refine Q.asg ?_) | (refine Q.ret ?_) | (refine Q.drop ?_) | (refine Q.nxt ?_) | (refine Q.setB rfl ?_) | (refine Q.val (by rfl) (by first | rfl | (simp only [cln_tup, cln_lst, clns_cons, clns_nil, clns_izs, clns_eds, cln_edge, cln_int, Bool.and_self, Bool.not_false, Bool.and_true, Bool.true_and]; first | done | fail)) ?_) | (refine Q.valv (by rfl) ?_) | (refine Q.takeI (by rfl) ?_) | (refine Q.consA ?_) | (refine Q.consO ?_) | (refine Q.nilO ?_) | (refine Q.nilP ?_) | (refine Q.tupM ?_) | (refine Q.lstM ?_) | (refine Q.dicE ?_) | (refine Q.call ?_) | (refine Q.refA (by rfl) ?_) | (refine Q.subI (by rfl) ?_) | (refine Q.valA ?_) | (refine Q.nilA ?_) | (refine Q.op2 ?_) | (refine Q.un ?_) | (refine Q.callA ?_) | (refine Q.callS ?_) | (refine Q.forS ?_) | (refine Q.iter ?_) | (refine Q.rng1 ?_) | (refine Q.rng2 ?_) | (refine Q.gtup rfl ?_) | (refine Q.gcons ?_) | (refine Q.gnil ?_) | (refine Q.put0 (by rfl) ?_) | (refine retK_rt (by rfl) ?_) | (refine ⟨Nat.le_of_ble_eq_true rfl, ?_⟩) | (refine ⟨_, rfl, big_ok (by omega) (by omega), ?_⟩) | (refine ⟨_, _, rfl, Bool.and_eq_true_iff.mpr ⟨big_ok (by omega) (by omega), big_ok (by omega) (by omega)⟩, ?_⟩) | (refine Q.truP ?_) | (refine Q.mbl ?_) | (refine Q.mtru ?_) | (refine Q.mnot ?_) | (refine Q.mor ?_) | (refine Q.mand ?_) | (refine ⟨by rfl, _, _, by rfl, ?_⟩) | (refine ⟨_, _, _, by rfl, by rfl, ?_⟩) | (refine ew_add ?_) | (refine ey_add ?_) | (refine ew_ii (by first | rfl | exact decide_eq_true (by omega) | exact cMul_l (by omega) (by omega) | exact cMul_r (by omega) (by omega)) ?_) | (refine ew_mul (by first | rfl | exact cMul_l (by omega) (by omega) | exact cMul_r (by omega) (by omega)) ?_) | (refine ey_ii (by first | rfl | exact decide_eq_true (by omega) | exact cMul_l (by omega) (by omega) | exact cMul_r (by omega) (by omega)) ?_) | (refine ey_mul (by first | rfl | exact cMul_l (by omega) (by omega) | exact cMul_r (by omega) (by omega)) ?_) | (refine ew_neg ?_) | (refine ey_neg ?_) | (refine ew_iB ?_) | (refine ey_iB ?_) | (refine ⟨_, by rfl, ?_⟩) | (refine ⟨(show List.length _ = _ from rfl), ?_⟩) | (simp only [wip, resto, List.getElem?_cons_zero, List.getElem?_cons_succ, Option.join_some, Option.join_none, Int.reduceToNat, seqK_nx, seqK_rt, turnK_nx, turnK_ct, maxI_eq, minI_eq, izs_len, fz_tup, fz_lst, fz_dic, fzs_eds, fzs_izs, fzs_nil, fzs_cons, takeArgs, refPos, refsOf, putBack, List.set_cons_zero, List.set_cons_succ, fz_int, fz_bl, fz_non])))
    refine Q.meth0 (by rfl) (by rfl) ?_
    (repeat (first | (refine Q.seq ?_) | (refine Q.asg ?_) | (refine Q.ret ?_) | (refine Q.drop ?_) | (refine Q.nxt ?_) | (refine Q.setB rfl ?_) | (refine Q.val (by rfl) (by first | rfl | (simp only [cln_tup, cln_lst, clns_cons, clns_nil, clns_izs, clns_eds, cln_edge, cln_int, Bool.and_self, Bool.not_false, Bool.and_true, Bool.true_and]; first | done | fail)) ?_) | (refine Q.valv (by rfl) ?_) | (refine Q.takeI (by rfl) ?_) | (refine Q.consA ?_) | (refine Q.consO ?_) | (refine Q.nilO ?_) | (refine Q.nilP ?_) | (refine Q.tupM ?_) | (refine Q.lstM ?_) | (refine Q.dicE ?_) | (refine Q.call ?_) | (refine Q.refA (by rfl) ?_) | (refine Q.subI (by rfl) ?_) | (refine Q.valA ?_) | (refine Q.nilA ?_) | (refine Q.op2 ?_) | (refine Q.un ?_) | (refine Q.callA ?_) | (refine Q.callS ?_) | (refine Q.forS ?_) | (refine Q.iter ?_) | (refine Q.rng1 ?_) | (refine Q.rng2 ?_) | (refine Q.gtup rfl ?_) | (refine Q.gcons ?_) | (refine Q.gnil ?_) | (refine Q.put0 (by rfl) ?_) | (refine retK_rt (by rfl) ?_) | (refine ⟨Nat.le_of_ble_eq_true rfl, ?_⟩) | (refine ⟨_, rfl, big_ok (by omega) (by omega), ?_⟩) | (refine ⟨_, _, rfl, Bool.and_eq_true_iff.mpr ⟨big_ok (by omega) (by omega), big_ok (by omega) (by omega)⟩, ?_⟩) | (refine Q.truP ?_) | (refine Q.mbl ?_) | (refine Q.mtru ?_) | (refine Q.mnot ?_) | (refine Q.mor ?_) | (refine Q.mand ?_) | (refine ⟨by rfl, _, _, by rfl, ?_⟩) | (refine ⟨_, _, _, by rfl, by rfl, ?_⟩) | (refine ew_add ?_) | (refine ey_add ?_) | (refine ew_ii (by first | rfl | exact decide_eq_true (by omega) | exact cMul_l (by omega) (by omega) | exact cMul_r (by omega) (by omega)) ?_) | (refine ew_mul (by first | rfl | exact cMul_l (by omega) (by omega) | exact cMul_r (by omega) (by omega)) ?_) | (refine ey_ii (by first | rfl | exact decide_eq_true (by omega) | exact cMul_l (by omega) (by omega) | exact cMul_r (by omega) (by omega)) ?_) | (refine ey_mul (by first | rfl | exact cMul_l (by omega) (by omega) | exact cMul_r (by omega) (by omega)) ?_) | (refine ew_neg ?_) | (refine ey_neg ?_) | (refine ew_iB ?_) | (refine ey_iB ?_) | (refine ⟨_, by rfl, ?_⟩) | (refine ⟨(show List.length _ = _ from rfl), ?_⟩) | (simp only [wip, resto, List.getElem?_cons_zero, List.getElem?_cons_succ, Option.join_some, Option.join_none, Int.reduceToNat, seqK_nx, seqK_rt, turnK_nx, turnK_ct, maxI_eq, minI_eq, izs_len, fz_tup, fz_lst, fz_dic, fzs_eds, fzs_izs, fzs_nil, fzs_cons, takeArgs, refPos, refsOf, putBack, List.set_cons_zero, List.set_cons_succ, fz_int, fz_bl, fz_non])))
    have hp0 : 0 < lt.length := List.length_pos_iff.mpr h1
    (refine (draw_ok (by assumption) (by omega) (by omega) (by omega)).imp ?_; rintro _ _ ⟨q, hpd, rfl, q0, q1, rfl, hp⟩)
    obtain ⟨x, _, _, hx⟩ := atI_izs (xs := lt) q0 q1
    (repeat (first | (refine Q.seq ?_) | (refine Q.asg ?_) | (refine Q.ret ?_) | (refine Q.drop ?_) | (refine Q.nxt ?_) | (refine Q.setB rfl ?_) | (refine Q.val (by rfl) (by first | rfl | (simp only [cln_tup, cln_lst, clns_cons, clns_nil, clns_izs, clns_eds, cln_edge, cln_int, Bool.and_self, Bool.not_false, Bool.and_true, Bool.true_and]; first | done | fail)) ?_) | (refine Q.valv (by rfl) ?_) | (refine Q.takeI (by rfl) ?_) | (refine Q.consA ?_) | (refine Q.consO ?_) | (refine Q.nilO ?_) | (refine Q.nilP ?_) | (refine Q.tupM ?_) | (refine Q.lstM ?_) | (refine Q.dicE ?_) | (refine Q.call ?_) | (refine Q.refA (by rfl) ?_) | (refine Q.subI (by rfl) ?_) | (refine Q.valA ?_) | (refine Q.nilA ?_) | (refine Q.op2 ?_) | (refine Q.un ?_) | (refine Q.callA ?_) | (refine Q.callS ?_) | (refine Q.forS ?_) | (refine Q.iter ?_) | (refine Q.rng1 ?_) | (refine Q.rng2 ?_) | (refine Q.gtup rfl ?_) | (refine Q.gcons ?_) | (refine Q.gnil ?_) | (refine Q.put0 (by rfl) ?_) | (refine retK_rt (by rfl) ?_) | (refine ⟨Nat.le_of_ble_eq_true rfl, ?_⟩) | (refine ⟨_, rfl, big_ok (by omega) (by omega), ?_⟩) | (refine ⟨_, _, rfl, Bool.and_eq_true_iff.mpr ⟨big_ok (by omega) (by omega), big_ok (by omega) (by omega)⟩, ?_⟩) | (refine Q.truP ?_) | (refine Q.mbl ?_) | (refine Q.mtru ?_) | (refine Q.mnot ?_) | (refine Q.mor ?_) | (refine Q.mand ?_) | (refine ⟨by rfl, _, _, by rfl, ?_⟩) | (refine ⟨_, _, _, by rfl, by rfl, ?_⟩) | (refine ew_add ?_) | (refine ey_add ?_) | (refine ew_ii (by first | rfl | exact decide_eq_true (by omega) | exact cMul_l (by omega) (by omega) | exact cMul_r (by omega) (by omega)) ?_) | (refine ew_mul (by first | rfl | exact cMul_l (by omega) (by omega) | exact cMul_r (by omega) (by omega)) ?_) | (refine ey_ii (by first | rfl | exact decide_eq_true (by omega) | exact cMul_l (by omega) (by omega) | exact cMul_r (by omega) (by omega)) ?_) | (refine ey_mul (by first | rfl | exact cMul_l (by omega) (by omega) | exact cMul_r (by omega) (by omega)) ?_) | (refine ew_neg ?_) | (refine ey_neg ?_) | (refine ew_iB ?_) | (refine ey_iB ?_) | (refine ⟨_, by rfl, ?_⟩) | (refine ⟨(show List.length _ = _ from rfl), ?_⟩) | (simp only [wip, resto, List.getElem?_cons_zero, List.getElem?_cons_succ, Option.join_some, Option.join_none, Int.reduceToNat, seqK_nx, seqK_rt, turnK_nx, turnK_ct, maxI_eq, minI_eq, izs_len, fz_tup, fz_lst, fz_dic, fzs_eds, fzs_izs, fzs_nil, fzs_cons, takeArgs, refPos, refsOf, putBack, List.set_cons_zero, List.set_cons_succ, fz_int, fz_bl, fz_non])))
    (refine Q.val (by (simp (disch := omega) only [Int.reduceToNat, atI_z, atI_1, atI_2, List.set_cons_zero, List.set_cons_succ, pOp2, pVar, pCst, pCall, pCons, pNil, pBl, pTru, pNotB, pAndB, pOrB, pAnd, pOr, pNot, pChain, pIf, pUn, pSnoc, iiI, iiB, subX, lenX, blX, truD, seqD, negX, intX, List.getElem?_cons_zero, List.getElem?_cons_succ, List.nil_append, List.cons_append, Int.reduceLT, Int.reduceLE, and_self, and_true, true_and, Bool.and_true, Bool.true_and, decide_eq_true_eq, if_true, if_pos, decide_true, Option.map_some, Bool.false_eq_true, if_false, maxX, minX, hx]) <;> rfl) (by rfl) ?_)
    (repeat (first | (refine Q.seq ?_) | (refine Q.asg ?_) | (refine Q.ret ?_) | (refine Q.drop ?_) | (refine Q.nxt ?_) | (refine Q.setB rfl ?_) | (refine Q.val (by rfl) (by first | rfl | (simp only [cln_tup, cln_lst, clns_cons, clns_nil, clns_izs, clns_eds, cln_edge, cln_int, Bool.and_self, Bool.not_false, Bool.and_true, Bool.true_and]; first | done | fail)) ?_) | (refine Q.valv (by rfl) ?_) | (refine Q.takeI (by rfl) ?_) | (refine Q.consA ?_) | (refine Q.consO ?_) | (refine Q.nilO ?_) | (refine Q.nilP ?_) | (refine Q.tupM ?_) | (refine Q.lstM ?_) | (refine Q.dicE ?_) | (refine Q.call ?_) | (refine Q.refA (by rfl) ?_) | (refine Q.subI (by rfl) ?_) | (refine Q.valA ?_) | (refine Q.nilA ?_) | (refine Q.op2 ?_) | (refine Q.un ?_) | (refine Q.callA ?_) | (refine Q.callS ?_) | (refine Q.forS ?_) | (refine Q.iter ?_) | (refine Q.rng1 ?_) | (refine Q.rng2 ?_) | (refine Q.gtup rfl ?_) | (refine Q.gcons ?_) | (refine Q.gnil ?_) | (refine Q.put0 (by rfl) ?_) | (refine retK_rt (by rfl) ?_) | (refine ⟨Nat.le_of_ble_eq_true rfl, ?_⟩) | (refine ⟨_, rfl, big_ok (by omega) (by omega), ?_⟩) | (refine ⟨_, _, rfl, Bool.and_eq_true_iff.mpr ⟨big_ok (by omega) (by omega), big_ok (by omega) (by omega)⟩, ?_⟩) | (refine Q.truP ?_) | (refine Q.mbl ?_) | (refine Q.mtru ?_) | (refine Q.mnot ?_) | (refine Q.mor ?_) | (refine Q.mand ?_) | (refine ⟨by rfl, _, _, by rfl, ?_⟩) | (refine ⟨_, _, _, by rfl, by rfl, ?_⟩) | (refine ew_add ?_) | (refine ey_add ?_) | (refine ew_ii (by first | rfl | exact decide_eq_true (by omega) | exact cMul_l (by omega) (by omega) | exact cMul_r (by omega) (by omega)) ?_) | (refine ew_mul (by first | rfl | exact cMul_l (by omega) (by omega) | exact cMul_r (by omega) (by omega)) ?_) | (refine ey_ii (by first | rfl | exact decide_eq_true (by omega) | exact cMul_l (by omega) (by omega) | exact cMul_r (by omega) (by omega)) ?_) | (refine ey_mul (by first | rfl | exact cMul_l (by omega) (by omega) | exact cMul_r (by omega) (by omega)) ?_) | (refine ew_neg ?_) | (refine ey_neg ?_) | (refine ew_iB ?_) | (refine ey_iB ?_) | (refine ⟨_, by rfl, ?_⟩) | (refine ⟨(show List.length _ = _ from rfl), ?_⟩) | (simp only [wip, resto, List.getElem?_cons_zero, List.getElem?_cons_succ, Option.join_some, Option.join_none, Int.reduceToNat, seqK_nx, seqK_rt, turnK_nx, turnK_ct, maxI_eq, minI_eq, izs_len, fz_tup, fz_lst, fz_dic, fzs_eds, fzs_izs, fzs_nil, fzs_cons, takeArgs, refPos, refsOf, putBack, List.set_cons_zero, List.set_cons_succ, fz_int, fz_bl, fz_non])))
    refine ⟨_, _, _, by rfl, append_izs (size_ok (by omega)), ?_⟩
    (repeat (first | (refine Q.seq ?_) | (refine Q.asg ?_) | (refine Q.ret ?_) | (refine Q.drop ?_) | (refine Q.nxt ?_) | (refine Q.setB rfl ?_) | (refine Q.val (by rfl) (by first | rfl | (simp only [cln_tup, cln_lst, clns_cons, clns_nil, clns_izs, clns_eds, cln_edge, cln_int, Bool.and_self, Bool.not_false, Bool.and_true, Bool.true_and]; first | done | fail)) ?_) | (refine Q.valv (by rfl) ?_) | (refine Q.takeI (by rfl) ?_) | (refine Q.consA ?_) | (refine Q.consO ?_) | (refine Q.nilO ?_) | (refine Q.nilP ?_) | (refine Q.tupM ?_) | (refine Q.lstM ?_) | (refine Q.dicE ?_) | (refine Q.call ?_) | (refine Q.refA (by rfl) ?_) | (refine Q.subI (by rfl) ?_) | (refine Q.valA ?_) | (refine Q.nilA ?_) | (refine Q.op2 ?_) | (refine Q.un ?_) | (refine Q.callA ?_) | (refine Q.callS ?_) | (refine Q.forS ?_) | (refine Q.iter ?_) | (refine Q.rng1 ?_) | (refine Q.rng2 ?_) | (refine Q.gtup rfl ?_) | (refine Q.gcons ?_) | (refine Q.gnil ?_) | (refine Q.put0 (by rfl) ?_) | (refine retK_rt (by rfl) ?_) | (refine ⟨Nat.le_of_ble_eq_true rfl, ?_⟩) | (refine ⟨_, rfl, big_ok (by omega) (by omega), ?_⟩) | (refine ⟨_, _, rfl, Bool.and_eq_true_iff.mpr ⟨big_ok (by omega) (by omega), big_ok (by omega) (by omega)⟩, ?_⟩) | (refine Q.truP ?_) | (refine Q.mbl ?_) | (refine Q.mtru ?_) | (refine Q.mnot ?_) | (refine Q.mor ?_) | (refine Q.mand ?_) | (refine ⟨by rfl, _, _, by rfl, ?_⟩) | (refine ⟨_, _, _, by rfl, by rfl, ?_⟩) | (refine ew_add ?_) | (refine ey_add ?_) | (refine ew_ii (by first | rfl | exact decide_eq_true (by omega) | exact cMul_l (by omega) (by omega) | exact cMul_r (by omega) (by omega)) ?_) | (refine ew_mul (by first | rfl | exact cMul_l (by omega) (by omega) | exact cMul_r (by omega) (by omega)) ?_) | (refine ey_ii (by first | rfl | exact decide_eq_true (by omega) | exact cMul_l (by omega) (by omega) | exact cMul_r (by omega) (by omega)) ?_) | (refine ey_mul (by first | rfl | exact cMul_l (by omega) (by omega) | exact cMul_r (by omega) (by omega)) ?_) | (refine ew_neg ?_) | (refine ey_neg ?_) | (refine ew_iB ?_) | (refine ey_iB ?_) | (refine ⟨_, by rfl, ?_⟩) | (refine ⟨(show List.length _ = _ from rfl), ?_⟩) | (simp only [wip, resto, List.getElem?_cons_zero, List.getElem?_cons_succ, Option.join_some, Option.join_none, Int.reduceToNat, seqK_nx, seqK_rt, turnK_nx, turnK_ct, maxI_eq, minI_eq, izs_len, fz_tup, fz_lst, fz_dic, fzs_eds, fzs_izs, fzs_nil, fzs_cons, takeArgs, refPos, refsOf, putBack, List.set_cons_zero, List.set_cons_succ, fz_int, fz_bl, fz_non])))
    exact ⟨_, _, _, _, _, _, none, none, rfl, hp.mono (by omega), by rw [List.length_append, hlen]; rfl⟩
  · rintro Γ ⟨p, o, hs, a, b, c, d', e', rfl, hp, hlen⟩
    rw [rngD_len] at hp hlen
    (repeat (first | (refine Q.seq ?_) | (refine Q.asg ?_) | (refine Q.ret ?_) | (refine Q.drop ?_) | (refine Q.nxt ?_) | (refine Q.setB rfl ?_) | (refine Q.val (by rfl) (by first | rfl | (simp only [cln_tup, cln_lst, clns_cons, clns_nil, clns_izs, clns_eds, cln_edge, cln_int, Bool.and_self, Bool.not_false, Bool.and_true, Bool.true_and]; first | done | fail)) ?_) | (refine Q.valv (by rfl) ?_) | (refine Q.takeI (by rfl) ?_) | (refine Q.consA ?_) | (refine Q.consO ?_) | (refine Q.nilO ?_) | (refine Q.nilP ?_) | (refine Q.tupM ?_) | (refine Q.lstM ?_) | (refine Q.dicE ?_) | (refine Q.call ?_) | (refine Q.refA (by rfl) ?_) | (refine Q.subI (by rfl) ?_) | (refine Q.valA ?_) | (refine Q.nilA ?_) | (refine Q.op2 ?_) | (refine Q.un ?_) | (refine Q.callA ?_) | (refine Q.callS ?_) | (refine Q.forS ?_) | (refine Q.iter ?_) | (refine Q.rng1 ?_) | (refine Q.rng2 ?_) | (refine Q.gtup rfl ?_) | (refine Q.gcons ?_) | (refine Q.gnil ?_) | (refine Q.put0 (by rfl) ?_) | (refine retK_rt (by rfl) ?_) | (refine ⟨Nat.le_of_ble_eq_true rfl, ?_⟩) | (refine ⟨_, rfl, big_ok (by omega) (by omega), ?_⟩) | (refine ⟨_, _, rfl, Bool.and_eq_true_iff.mpr ⟨big_ok (by omega) (by omega), big_ok (by omega) (by omega)⟩, ?_⟩) | (refine Q.truP ?_) | (refine Q.mbl ?_) | (refine Q.mtru ?_) | (refine Q.mnot ?_) | (refine Q.mor ?_) | (refine Q.mand ?_) | (refine ⟨by rfl, _, _, by rfl, ?_⟩) | (refine ⟨_, _, _, by rfl, by rfl, ?_⟩) | (refine ew_add ?_) | (refine ey_add ?_) | (refine ew_ii (by first | rfl | exact decide_eq_true (by omega) | exact cMul_l (by omega) (by omega) | exact cMul_r (by omega) (by omega)) ?_) | (refine ew_mul (by first | rfl | exact cMul_l (by omega) (by omega) | exact cMul_r (by omega) (by omega)) ?_) | (refine ey_ii (by first | rfl | exact decide_eq_true (by omega) | exact cMul_l (by omega) (by omega) | exact cMul_r (by omega) (by omega)) ?_) | (refine ey_mul (by first | rfl | exact cMul_l (by omega) (by omega) | exact cMul_r (by omega) (by omega)) ?_) | (refine ew_neg ?_) | (refine ey_neg ?_) | (refine ew_iB ?_) | (refine ey_iB ?_) | (refine ⟨_, by rfl, ?_⟩) | (refine ⟨(show List.length _ = _ from rfl), ?_⟩) | (simp only [wip, resto, List.getElem?_cons_zero, List.getElem?_cons_succ, Option.join_some, Option.join_none, Int.reduceToNat, seqK_nx, seqK_rt, turnK_nx, turnK_ct, maxI_eq, minI_eq, izs_len, fz_tup, fz_lst, fz_dic, fzs_eds, fzs_izs, fzs_nil, fzs_cons, takeArgs, refPos, refsOf, putBack, List.set_cons_zero, List.set_cons_succ, fz_int, fz_bl, fz_non])))
    exact ⟨hs, _, rfl, by omega, rfl, hp⟩
theorem spoilt_ok {m : Nat} {p : D} (h : Pen m p) (hm : m ≤ 100000) {n k kind : Int} {es : List (Int × Int)} {hs : List Int} (hn : 1 ≤ n) (hn2 : n ≤ 1000) (hk : 0 ≤ k) (hk2 : k ≤ 1000) (he : ∀ e ∈ es, 0 ≤ e.1 ∧ e.1 < e.2 ∧ e.2 < n) (hl : es.length ≤ 5000) (hh : (hs.length : Int) = n) : Ret (law_spoiltF [p, .int kind, webD n es, .int k, .lst true (izs hs)]) fun r os => ∃ hs' p', r = .lst true (izs hs') ∧ hs'.length ≤ n + 1 ∧ os = [p'] ∧ Pen (m + 10) p' := by
  refine Q.start (by (simp only [entry, List.map_cons, List.map_nil, List.length_cons, List.length_nil, List.replicate, List.cons_append, List.nil_append, Nat.reduceAdd, Nat.reduceSub]) <;> rfl) ?_
  unfold law_spoiltB
  (repeat (first | (refine Q.seq ?_) | (refine Q.asg ?_) | (refine Q.ret ?_) | (refine Q.drop ?_) | (refine Q.nxt ?_) | (refine Q.setB rfl ?_) | (refine Q.val (by rfl) (by first | rfl | (simp only [cln_tup, cln_lst, clns_cons, clns_nil, clns_izs, clns_eds, cln_edge, cln_int, Bool.and_self, Bool.not_false, Bool.and_true, Bool.true_and]; first | done | fail)) ?_) | (refine Q.valv (by rfl) ?_) | (refine Q.takeI (by rfl) ?_) | (refine Q.consA ?_) | (refine Q.consO ?_) | (refine Q.nilO ?_) | (refine Q.nilP ?_) | (refine Q.tupM ?_) | (refine Q.lstM ?_) | (refine Q.dicE ?_) | (refine Q.call ?_) | (refine Q.refA (by rfl) ?_) | (refine Q.subI (by rfl) ?_) | (refine Q.valA ?_) | (refine Q.nilA ?_) | (refine Q.op2 ?_) | (refine Q.un ?_) | (refine Q.callA ?_) | (refine Q.callS ?_) | (refine Q.forS ?_) | (refine Q.iter ?_) | (refine Q.rng1 ?_) | (refine Q.rng2 ?_) | (refine Q.gtup rfl ?_) | (refine Q.gcons ?_) | (refine Q.gnil ?_) | (refine Q.put0 (by rfl) ?_) | (refine retK_rt (by rfl) ?_) | (refine ⟨Nat.le_of_ble_eq_true rfl, ?_⟩) | (refine ⟨_, rfl, big_ok (by omega) (by omega), ?_⟩) | (refine ⟨_, _, rfl, Bool.and_eq_true_iff.mpr ⟨big_ok (by omega) (by omega), big_ok (by omega) (by omega)⟩, ?_⟩) | (refine Q.truP ?_) | (refine Q.mbl ?_) | (refine Q.mtru ?_) | (refine Q.mnot ?_) | (refine Q.mor ?_) | (refine Q.mand ?_) | (refine ⟨by rfl, _, _, by rfl, ?_⟩) | (refine ⟨_, _, _, by rfl, by rfl, ?_⟩) | (refine ew_add ?_) | (refine ey_add ?_) | (refine ew_ii (by first | rfl | exact decide_eq_true (by omega) | exact cMul_l (by omega) (by omega) | exact cMul_r (by omega) (by omega)) ?_) | (refine ew_mul (by first | rfl | exact cMul_l (by omega) (by omega) | exact cMul_r (by omega) (by omega)) ?_) | (refine ey_ii (by first | rfl | exact decide_eq_true (by omega) | exact cMul_l (by omega) (by omega) | exact cMul_r (by omega) (by omega)) ?_) | (refine ey_mul (by first | rfl | exact cMul_l (by omega) (by omega) | exact cMul_r (by omega) (by omega)) ?_) | (refine ew_neg ?_) | (refine ey_neg ?_) | (refine ew_iB ?_) | (refine ey_iB ?_) | (refine ⟨_, by rfl, ?_⟩) | (refine ⟨(show List.length _ = _ from rfl), ?_⟩) | (simp only [wip, resto, List.getElem?_cons_zero, List.getElem?_cons_succ, Option.join_some, Option.join_none, Int.reduceToNat, seqK_nx, seqK_rt, turnK_nx, turnK_ct, maxI_eq, minI_eq, izs_len, fz_tup, fz_lst, fz_dic, fzs_eds, fzs_izs, fzs_nil, fzs_cons, takeArgs, refPos, refsOf, putBack, List.set_cons_zero, List.set_cons_succ, fz_int, fz_bl, fz_non])))
  refine ⟨_, by (unfold listX; simp only [seqD, clns_izs, if_true]) <;> rfl, ?_⟩
  (repeat (first | (refine Q.seq ?_) | (refine Q.asg ?_) | (refine Q.ret ?_) | (refine Q.drop ?_) | (refine Q.nxt ?_) | (refine Q.setB rfl ?_) | (refine Q.val (by rfl) (by first | rfl | (simp only [cln_tup, cln_lst, clns_cons, clns_nil, clns_izs, clns_eds, cln_edge, cln_int, Bool.and_self, Bool.not_false, Bool.and_true, Bool.true_and]; first | done | fail)) ?_) | (refine Q.valv (by rfl) ?_) | (refine Q.takeI (by rfl) ?_) | (refine Q.consA ?_) | (refine Q.consO ?_) | (refine Q.nilO ?_) | (refine Q.nilP ?_) | (refine Q.tupM ?_) | (refine Q.lstM ?_) | (refine Q.dicE ?_) | (refine Q.call ?_) | (refine Q.refA (by rfl) ?_) | (refine Q.subI (by rfl) ?_) | (refine Q.valA ?_) | (refine Q.nilA ?_) | (refine Q.op2 ?_) | (refine Q.un ?_) | (refine Q.callA ?_) | (refine Q.callS ?_) | (refine Q.forS ?_) | (refine Q.iter ?_) | (refine Q.rng1 ?_) | (refine Q.rng2 ?_) | (refine Q.gtup rfl ?_) | (refine Q.gcons ?_) | (refine Q.gnil ?_) | (refine Q.put0 (by rfl) ?_) | (refine retK_rt (by rfl) ?_) | (refine ⟨Nat.le_of_ble_eq_true rfl, ?_⟩) | (refine ⟨_, rfl, big_ok (by omega) (by omega), ?_⟩) | (refine ⟨_, _, rfl, Bool.and_eq_true_iff.mpr ⟨big_ok (by omega) (by omega), big_ok (by omega) (by omega)⟩, ?_⟩) | (refine Q.truP ?_) | (refine Q.mbl ?_) | (refine Q.mtru ?_) | (refine Q.mnot ?_) | (refine Q.mor ?_) | (refine Q.mand ?_) | (refine ⟨by rfl, _, _, by rfl, ?_⟩) | (refine ⟨_, _, _, by rfl, by rfl, ?_⟩) | (refine ew_add ?_) | (refine ey_add ?_) | (refine ew_ii (by first | rfl | exact decide_eq_true (by omega) | exact cMul_l (by omega) (by omega) | exact cMul_r (by omega) (by omega)) ?_) | (refine ew_mul (by first | rfl | exact cMul_l (by omega) (by omega) | exact cMul_r (by omega) (by omega)) ?_) | (refine ey_ii (by first | rfl | exact decide_eq_true (by omega) | exact cMul_l (by omega) (by omega) | exact cMul_r (by omega) (by omega)) ?_) | (refine ey_mul (by first | rfl | exact cMul_l (by omega) (by omega) | exact cMul_r (by omega) (by omega)) ?_) | (refine ew_neg ?_) | (refine ey_neg ?_) | (refine ew_iB ?_) | (refine ey_iB ?_) | (refine ⟨_, by rfl, ?_⟩) | (refine ⟨(show List.length _ = _ from rfl), ?_⟩) | (simp only [wip, resto, List.getElem?_cons_zero, List.getElem?_cons_succ, Option.join_some, Option.join_none, Int.reduceToNat, seqK_nx, seqK_rt, turnK_nx, turnK_ct, maxI_eq, minI_eq, izs_len, fz_tup, fz_lst, fz_dic, fzs_eds, fzs_izs, fzs_nil, fzs_cons, takeArgs, refPos, refsOf, putBack, List.set_cons_zero, List.set_cons_succ, fz_int, fz_bl, fz_non])))
  (refine (draw_ok (by assumption) (by omega) (by omega) (by omega)).imp ?_; rintro _ _ ⟨q, hd, rfl, q0, q1, rfl, h⟩)
  (repeat (first | (refine Q.seq ?_) | (refine Q.asg ?_) | (refine Q.ret ?_) | (refine Q.drop ?_) | (refine Q.nxt ?_) | (refine Q.setB rfl ?_) | (refine Q.val (by rfl) (by first | rfl | (simp only [cln_tup, cln_lst, clns_cons, clns_nil, clns_izs, clns_eds, cln_edge, cln_int, Bool.and_self, Bool.not_false, Bool.and_true, Bool.true_and]; first | done | fail)) ?_) | (refine Q.valv (by rfl) ?_) | (refine Q.takeI (by rfl) ?_) | (refine Q.consA ?_) | (refine Q.consO ?_) | (refine Q.nilO ?_) | (refine Q.nilP ?_) | (refine Q.tupM ?_) | (refine Q.lstM ?_) | (refine Q.dicE ?_) | (refine Q.call ?_) | (refine Q.refA (by rfl) ?_) | (refine Q.subI (by rfl) ?_) | (refine Q.valA ?_) | (refine Q.nilA ?_) | (refine Q.op2 ?_) | (refine Q.un ?_) | (refine Q.callA ?_) | (refine Q.callS ?_) | (refine Q.forS ?_) | (refine Q.iter ?_) | (refine Q.rng1 ?_) | (refine Q.rng2 ?_) | (refine Q.gtup rfl ?_) | (refine Q.gcons ?_) | (refine Q.gnil ?_) | (refine Q.put0 (by rfl) ?_) | (refine retK_rt (by rfl) ?_) | (refine ⟨Nat.le_of_ble_eq_true rfl, ?_⟩) | (refine ⟨_, rfl, big_ok (by omega) (by omega), ?_⟩) | (refine ⟨_, _, rfl, Bool.and_eq_true_iff.mpr ⟨big_ok (by omega) (by omega), big_ok (by omega) (by omega)⟩, ?_⟩) | (refine Q.truP ?_) | (refine Q.mbl ?_) | (refine Q.mtru ?_) | (refine Q.mnot ?_) | (refine Q.mor ?_) | (refine Q.mand ?_) | (refine ⟨by rfl, _, _, by rfl, ?_⟩) | (refine ⟨_, _, _, by rfl, by rfl, ?_⟩) | (refine ew_add ?_) | (refine ey_add ?_) | (refine ew_ii (by first | rfl | exact decide_eq_true (by omega) | exact cMul_l (by omega) (by omega) | exact cMul_r (by omega) (by omega)) ?_) | (refine ew_mul (by first | rfl | exact cMul_l (by omega) (by omega) | exact cMul_r (by omega) (by omega)) ?_) | (refine ey_ii (by first | rfl | exact decide_eq_true (by omega) | exact cMul_l (by omega) (by omega) | exact cMul_r (by omega) (by omega)) ?_) | (refine ey_mul (by first | rfl | exact cMul_l (by omega) (by omega) | exact cMul_r (by omega) (by omega)) ?_) | (refine ew_neg ?_) | (refine ey_neg ?_) | (refine ew_iB ?_) | (refine ey_iB ?_) | (refine ⟨_, by rfl, ?_⟩) | (refine ⟨(show List.length _ = _ from rfl), ?_⟩) | (simp only [wip, resto, List.getElem?_cons_zero, List.getElem?_cons_succ, Option.join_some, Option.join_none, Int.reduceToNat, seqK_nx, seqK_rt, turnK_nx, turnK_ct, maxI_eq, minI_eq, izs_len, fz_tup, fz_lst, fz_dic, fzs_eds, fzs_izs, fzs_nil, fzs_cons, takeArgs, refPos, refsOf, putBack, List.set_cons_zero, List.set_cons_succ, fz_int, fz_bl, fz_non])))
  refine (near_ok (by omega) (by omega) he (by omega)).imp ?_
  rintro _ _ ⟨rfl, L, rfl, hL, hL2⟩
  obtain ⟨l, _, lm, l3⟩ := lsO_at (L := L) (i := q) q0 (by omega)
  have hx : gC subX (fz (lsO true L)) (.int q) = some (.lst false (izs l)) := by
    unfold gC
    rw [fz_lsO, l3 false]
    simp only [cln_lst, clns_izs]
    rfl
  have l0 := hL2 l lm
  (repeat (first | (refine Q.seq ?_) | (refine Q.asg ?_) | (refine Q.ret ?_) | (refine Q.drop ?_) | (refine Q.nxt ?_) | (refine Q.setB rfl ?_) | (refine Q.val (by rfl) (by first | rfl | (simp only [cln_tup, cln_lst, clns_cons, clns_nil, clns_izs, clns_eds, cln_edge, cln_int, Bool.and_self, Bool.not_false, Bool.and_true, Bool.true_and]; first | done | fail)) ?_) | (refine Q.valv (by rfl) ?_) | (refine Q.takeI (by rfl) ?_) | (refine Q.consA ?_) | (refine Q.consO ?_) | (refine Q.nilO ?_) | (refine Q.nilP ?_) | (refine Q.tupM ?_) | (refine Q.lstM ?_) | (refine Q.dicE ?_) | (refine Q.call ?_) | (refine Q.refA (by rfl) ?_) | (refine Q.subI (by rfl) ?_) | (refine Q.valA ?_) | (refine Q.nilA ?_) | (refine Q.op2 ?_) | (refine Q.un ?_) | (refine Q.callA ?_) | (refine Q.callS ?_) | (refine Q.forS ?_) | (refine Q.iter ?_) | (refine Q.rng1 ?_) | (refine Q.rng2 ?_) | (refine Q.gtup rfl ?_) | (refine Q.gcons ?_) | (refine Q.gnil ?_) | (refine Q.put0 (by rfl) ?_) | (refine retK_rt (by rfl) ?_) | (refine ⟨Nat.le_of_ble_eq_true rfl, ?_⟩) | (refine ⟨_, rfl, big_ok (by omega) (by omega), ?_⟩) | (refine ⟨_, _, rfl, Bool.and_eq_true_iff.mpr ⟨big_ok (by omega) (by omega), big_ok (by omega) (by omega)⟩, ?_⟩) | (refine Q.truP ?_) | (refine Q.mbl ?_) | (refine Q.mtru ?_) | (refine Q.mnot ?_) | (refine Q.mor ?_) | (refine Q.mand ?_) | (refine ⟨by rfl, _, _, by rfl, ?_⟩) | (refine ⟨_, _, _, by rfl, by rfl, ?_⟩) | (refine ew_add ?_) | (refine ey_add ?_) | (refine ew_ii (by first | rfl | exact decide_eq_true (by omega) | exact cMul_l (by omega) (by omega) | exact cMul_r (by omega) (by omega)) ?_) | (refine ew_mul (by first | rfl | exact cMul_l (by omega) (by omega) | exact cMul_r (by omega) (by omega)) ?_) | (refine ey_ii (by first | rfl | exact decide_eq_true (by omega) | exact cMul_l (by omega) (by omega) | exact cMul_r (by omega) (by omega)) ?_) | (refine ey_mul (by first | rfl | exact cMul_l (by omega) (by omega) | exact cMul_r (by omega) (by omega)) ?_) | (refine ew_neg ?_) | (refine ey_neg ?_) | (refine ew_iB ?_) | (refine ey_iB ?_) | (refine ⟨_, by rfl, ?_⟩) | (refine ⟨(show List.length _ = _ from rfl), ?_⟩) | (simp only [wip, resto, List.getElem?_cons_zero, List.getElem?_cons_succ, Option.join_some, Option.join_none, Int.reduceToNat, seqK_nx, seqK_rt, turnK_nx, turnK_ct, maxI_eq, minI_eq, izs_len, fz_tup, fz_lst, fz_dic, fzs_eds, fzs_izs, fzs_nil, fzs_cons, takeArgs, refPos, refsOf, putBack, List.set_cons_zero, List.set_cons_succ, fz_int, fz_bl, fz_non])))
  refine ⟨_, hx, ?_⟩
  (repeat (first | (refine Q.seq ?_) | (refine Q.asg ?_) | (refine Q.ret ?_) | (refine Q.drop ?_) | (refine Q.nxt ?_) | (refine Q.setB rfl ?_) | (refine Q.val (by rfl) (by first | rfl | (simp only [cln_tup, cln_lst, clns_cons, clns_nil, clns_izs, clns_eds, cln_edge, cln_int, Bool.and_self, Bool.not_false, Bool.and_true, Bool.true_and]; first | done | fail)) ?_) | (refine Q.valv (by rfl) ?_) | (refine Q.takeI (by rfl) ?_) | (refine Q.consA ?_) | (refine Q.consO ?_) | (refine Q.nilO ?_) | (refine Q.nilP ?_) | (refine Q.tupM ?_) | (refine Q.lstM ?_) | (refine Q.dicE ?_) | (refine Q.call ?_) | (refine Q.refA (by rfl) ?_) | (refine Q.subI (by rfl) ?_) | (refine Q.valA ?_) | (refine Q.nilA ?_) | (refine Q.op2 ?_) | (refine Q.un ?_) | (refine Q.callA ?_) | (refine Q.callS ?_) | (refine Q.forS ?_) | (refine Q.iter ?_) | (refine Q.rng1 ?_) | (refine Q.rng2 ?_) | (refine Q.gtup rfl ?_) | (refine Q.gcons ?_) | (refine Q.gnil ?_) | (refine Q.put0 (by rfl) ?_) | (refine retK_rt (by rfl) ?_) | (refine ⟨Nat.le_of_ble_eq_true rfl, ?_⟩) | (refine ⟨_, rfl, big_ok (by omega) (by omega), ?_⟩) | (refine ⟨_, _, rfl, Bool.and_eq_true_iff.mpr ⟨big_ok (by omega) (by omega), big_ok (by omega) (by omega)⟩, ?_⟩) | (refine Q.truP ?_) | (refine Q.mbl ?_) | (refine Q.mtru ?_) | (refine Q.mnot ?_) | (refine Q.mor ?_) | (refine Q.mand ?_) | (refine ⟨by rfl, _, _, by rfl, ?_⟩) | (refine ⟨_, _, _, by rfl, by rfl, ?_⟩) | (refine ew_add ?_) | (refine ey_add ?_) | (refine ew_ii (by first | rfl | exact decide_eq_true (by omega) | exact cMul_l (by omega) (by omega) | exact cMul_r (by omega) (by omega)) ?_) | (refine ew_mul (by first | rfl | exact cMul_l (by omega) (by omega) | exact cMul_r (by omega) (by omega)) ?_) | (refine ey_ii (by first | rfl | exact decide_eq_true (by omega) | exact cMul_l (by omega) (by omega) | exact cMul_r (by omega) (by omega)) ?_) | (refine ey_mul (by first | rfl | exact cMul_l (by omega) (by omega) | exact cMul_r (by omega) (by omega)) ?_) | (refine ew_neg ?_) | (refine ey_neg ?_) | (refine ew_iB ?_) | (refine ey_iB ?_) | (refine ⟨_, by rfl, ?_⟩) | (refine ⟨(show List.length _ = _ from rfl), ?_⟩) | (simp only [wip, resto, List.getElem?_cons_zero, List.getElem?_cons_succ, Option.join_some, Option.join_none, Int.reduceToNat, seqK_nx, seqK_rt, turnK_nx, turnK_ct, maxI_eq, minI_eq, izs_len, fz_tup, fz_lst, fz_dic, fzs_eds, fzs_izs, fzs_nil, fzs_cons, takeArgs, refPos, refsOf, putBack, List.set_cons_zero, List.set_cons_succ, fz_int, fz_bl, fz_non])))
  refine cutH (fun f Γ1 => f = .nx ∧ ∃ (p : D) (fs : List Int), Γ1 = [some p, some (.int kind), some (webD n es), some (.int k), some (.lst false (izs hs)), some (.lst true (izs fs)), some (.int q), some (.lst false (izs l))] ∧ Pen (m + 2) p ∧ (fs.length : Int) = n) ?_ ?_
  · refine Q.ifP (c := decide (kind = 1)) (by (simp (disch := omega) only [Int.reduceToNat, atI_z, atI_1, atI_2, List.set_cons_zero, List.set_cons_succ, pOp2, pVar, pCst, pCall, pCons, pNil, pBl, pTru, pNotB, pAndB, pOrB, pAnd, pOr, pNot, pChain, pIf, pUn, pSnoc, iiI, iiB, subX, lenX, blX, truD, seqD, negX, intX, List.getElem?_cons_zero, List.getElem?_cons_succ, List.nil_append, List.cons_append, Int.reduceLT, Int.reduceLE, and_self, and_true, true_and, Bool.and_true, Bool.true_and, decide_eq_true_eq, if_true, if_pos, decide_true, Option.map_some, Bool.false_eq_true, if_false, maxX, minX, eqX_int]) <;> rfl) (fun hc => ?_) (fun hc => ?_)
    · (repeat (first | (refine Q.seq ?_) | (refine Q.asg ?_) | (refine Q.ret ?_) | (refine Q.drop ?_) | (refine Q.nxt ?_) | (refine Q.setB rfl ?_) | (refine Q.val (by rfl) (by first | rfl | (simp only [cln_tup, cln_lst, clns_cons, clns_nil, clns_izs, clns_eds, cln_edge, cln_int, Bool.and_self, Bool.not_false, Bool.and_true, Bool.true_and]; first | done | fail)) ?_) | (refine Q.valv (by rfl) ?_) | (refine Q.takeI (by rfl) ?_) | (refine Q.consA ?_) | (refine Q.consO ?_) | (refine Q.nilO ?_) | (refine Q.nilP ?_) | (refine Q.tupM ?_) | (refine Q.lstM ?_) | (refine Q.dicE ?_) | (refine Q.call ?_) | (refine Q.refA (by rfl) ?_) | (refine Q.subI (by rfl) ?_) | (refine Q.valA ?_) | (refine Q.nilA ?_) | (refine Q.op2 ?_) | (refine Q.un ?_) | (refine Q.callA ?_) | (refine Q.callS ?_) | (refine Q.forS ?_) | (refine Q.iter ?_) | (refine Q.rng1 ?_) | (refine Q.rng2 ?_) | (refine Q.gtup rfl ?_) | (refine Q.gcons ?_) | (refine Q.gnil ?_) | (refine Q.put0 (by rfl) ?_) | (refine retK_rt (by rfl) ?_) | (refine ⟨Nat.le_of_ble_eq_true rfl, ?_⟩) | (refine ⟨_, rfl, big_ok (by omega) (by omega), ?_⟩) | (refine ⟨_, _, rfl, Bool.and_eq_true_iff.mpr ⟨big_ok (by omega) (by omega), big_ok (by omega) (by omega)⟩, ?_⟩) | (refine Q.truP ?_) | (refine Q.mbl ?_) | (refine Q.mtru ?_) | (refine Q.mnot ?_) | (refine Q.mor ?_) | (refine Q.mand ?_) | (refine ⟨by rfl, _, _, by rfl, ?_⟩) | (refine ⟨_, _, _, by rfl, by rfl, ?_⟩) | (refine ew_add ?_) | (refine ey_add ?_) | (refine ew_ii (by first | rfl | exact decide_eq_true (by omega) | exact cMul_l (by omega) (by omega) | exact cMul_r (by omega) (by omega)) ?_) | (refine ew_mul (by first | rfl | exact cMul_l (by omega) (by omega) | exact cMul_r (by omega) (by omega)) ?_) | (refine ey_ii (by first | rfl | exact decide_eq_true (by omega) | exact cMul_l (by omega) (by omega) | exact cMul_r (by omega) (by omega)) ?_) | (refine ey_mul (by first | rfl | exact cMul_l (by omega) (by omega) | exact cMul_r (by omega) (by omega)) ?_) | (refine ew_neg ?_) | (refine ey_neg ?_) | (refine ew_iB ?_) | (refine ey_iB ?_) | (refine ⟨_, by rfl, ?_⟩) | (refine ⟨(show List.length _ = _ from rfl), ?_⟩) | (simp only [wip, resto, List.getElem?_cons_zero, List.getElem?_cons_succ, Option.join_some, Option.join_none, Int.reduceToNat, seqK_nx, seqK_rt, turnK_nx, turnK_ct, maxI_eq, minI_eq, izs_len, fz_tup, fz_lst, fz_dic, fzs_eds, fzs_izs, fzs_nil, fzs_cons, takeArgs, refPos, refsOf, putBack, List.set_cons_zero, List.set_cons_succ, fz_int, fz_bl, fz_non])))
      (refine (draw_ok (by assumption) (by omega) (by omega) (by omega)).imp ?_; rintro _ _ ⟨y, hd, rfl, y0, y1, rfl, h⟩)
      (repeat (first | (refine Q.seq ?_) | (refine Q.asg ?_) | (refine Q.ret ?_) | (refine Q.drop ?_) | (refine Q.nxt ?_) | (refine Q.setB rfl ?_) | (refine Q.val (by rfl) (by first | rfl | (simp only [cln_tup, cln_lst, clns_cons, clns_nil, clns_izs, clns_eds, cln_edge, cln_int, Bool.and_self, Bool.not_false, Bool.and_true, Bool.true_and]; first | done | fail)) ?_) | (refine Q.valv (by rfl) ?_) | (refine Q.takeI (by rfl) ?_) | (refine Q.consA ?_) | (refine Q.consO ?_) | (refine Q.nilO ?_) | (refine Q.nilP ?_) | (refine Q.tupM ?_) | (refine Q.lstM ?_) | (refine Q.dicE ?_) | (refine Q.call ?_) | (refine Q.refA (by rfl) ?_) | (refine Q.subI (by rfl) ?_) | (refine Q.valA ?_) | (refine Q.nilA ?_) | (refine Q.op2 ?_) | (refine Q.un ?_) | (refine Q.callA ?_) | (refine Q.callS ?_) | (refine Q.forS ?_) | (refine Q.iter ?_) | (refine Q.rng1 ?_) | (refine Q.rng2 ?_) | (refine Q.gtup rfl ?_) | (refine Q.gcons ?_) | (refine Q.gnil ?_) | (refine Q.put0 (by rfl) ?_) | (refine retK_rt (by rfl) ?_) | (refine ⟨Nat.le_of_ble_eq_true rfl, ?_⟩) | (refine ⟨_, rfl, big_ok (by omega) (by omega), ?_⟩) | (refine ⟨_, _, rfl, Bool.and_eq_true_iff.mpr ⟨big_ok (by omega) (by omega), big_ok (by omega) (by omega)⟩, ?_⟩) | (refine Q.truP ?_) | (refine Q.mbl ?_) | (refine Q.mtru ?_) | (refine Q.mnot ?_) | (refine Q.mor ?_) | (refine Q.mand ?_) | (refine ⟨by rfl, _, _, by rfl, ?_⟩) | (refine ⟨_, _, _, by rfl, by rfl, ?_⟩) | (refine ew_add ?_) | (refine ey_add ?_) | (refine ew_ii (by first | rfl | exact decide_eq_true (by omega) | exact cMul_l (by omega) (by omega) | exact cMul_r (by omega) (by omega)) ?_) | (refine ew_mul (by first | rfl | exact cMul_l (by omega) (by omega) | exact cMul_r (by omega) (by omega)) ?_) | (refine ey_ii (by first | rfl | exact decide_eq_true (by omega) | exact cMul_l (by omega) (by omega) | exact cMul_r (by omega) (by omega)) ?_) | (refine ey_mul (by first | rfl | exact cMul_l (by omega) (by omega) | exact cMul_r (by omega) (by omega)) ?_) | (refine ew_neg ?_) | (refine ey_neg ?_) | (refine ew_iB ?_) | (refine ey_iB ?_) | (refine ⟨_, by rfl, ?_⟩) | (refine ⟨(show List.length _ = _ from rfl), ?_⟩) | (simp only [wip, resto, List.getElem?_cons_zero, List.getElem?_cons_succ, Option.join_some, Option.join_none, Int.reduceToNat, seqK_nx, seqK_rt, turnK_nx, turnK_ct, maxI_eq, minI_eq, izs_len, fz_tup, fz_lst, fz_dic, fzs_eds, fzs_izs, fzs_nil, fzs_cons, takeArgs, refPos, refsOf, putBack, List.set_cons_zero, List.set_cons_succ, fz_int, fz_bl, fz_non])))
      refine ⟨_, _, _, by rfl, store_izs q0 (by omega), ?_⟩
      (repeat (first | (refine Q.seq ?_) | (refine Q.asg ?_) | (refine Q.ret ?_) | (refine Q.drop ?_) | (refine Q.nxt ?_) | (refine Q.setB rfl ?_) | (refine Q.val (by rfl) (by first | rfl | (simp only [cln_tup, cln_lst, clns_cons, clns_nil, clns_izs, clns_eds, cln_edge, cln_int, Bool.and_self, Bool.not_false, Bool.and_true, Bool.true_and]; first | done | fail)) ?_) | (refine Q.valv (by rfl) ?_) | (refine Q.takeI (by rfl) ?_) | (refine Q.consA ?_) | (refine Q.consO ?_) | (refine Q.nilO ?_) | (refine Q.nilP ?_) | (refine Q.tupM ?_) | (refine Q.lstM ?_) | (refine Q.dicE ?_) | (refine Q.call ?_) | (refine Q.refA (by rfl) ?_) | (refine Q.subI (by rfl) ?_) | (refine Q.valA ?_) | (refine Q.nilA ?_) | (refine Q.op2 ?_) | (refine Q.un ?_) | (refine Q.callA ?_) | (refine Q.callS ?_) | (refine Q.forS ?_) | (refine Q.iter ?_) | (refine Q.rng1 ?_) | (refine Q.rng2 ?_) | (refine Q.gtup rfl ?_) | (refine Q.gcons ?_) | (refine Q.gnil ?_) | (refine Q.put0 (by rfl) ?_) | (refine retK_rt (by rfl) ?_) | (refine ⟨Nat.le_of_ble_eq_true rfl, ?_⟩) | (refine ⟨_, rfl, big_ok (by omega) (by omega), ?_⟩) | (refine ⟨_, _, rfl, Bool.and_eq_true_iff.mpr ⟨big_ok (by omega) (by omega), big_ok (by omega) (by omega)⟩, ?_⟩) | (refine Q.truP ?_) | (refine Q.mbl ?_) | (refine Q.mtru ?_) | (refine Q.mnot ?_) | (refine Q.mor ?_) | (refine Q.mand ?_) | (refine ⟨by rfl, _, _, by rfl, ?_⟩) | (refine ⟨_, _, _, by rfl, by rfl, ?_⟩) | (refine ew_add ?_) | (refine ey_add ?_) | (refine ew_ii (by first | rfl | exact decide_eq_true (by omega) | exact cMul_l (by omega) (by omega) | exact cMul_r (by omega) (by omega)) ?_) | (refine ew_mul (by first | rfl | exact cMul_l (by omega) (by omega) | exact cMul_r (by omega) (by omega)) ?_) | (refine ey_ii (by first | rfl | exact decide_eq_true (by omega) | exact cMul_l (by omega) (by omega) | exact cMul_r (by omega) (by omega)) ?_) | (refine ey_mul (by first | rfl | exact cMul_l (by omega) (by omega) | exact cMul_r (by omega) (by omega)) ?_) | (refine ew_neg ?_) | (refine ey_neg ?_) | (refine ew_iB ?_) | (refine ey_iB ?_) | (refine ⟨_, by rfl, ?_⟩) | (refine ⟨(show List.length _ = _ from rfl), ?_⟩) | (simp only [wip, resto, List.getElem?_cons_zero, List.getElem?_cons_succ, Option.join_some, Option.join_none, Int.reduceToNat, seqK_nx, seqK_rt, turnK_nx, turnK_ct, maxI_eq, minI_eq, izs_len, fz_tup, fz_lst, fz_dic, fzs_eds, fzs_izs, fzs_nil, fzs_cons, takeArgs, refPos, refsOf, putBack, List.set_cons_zero, List.set_cons_succ, fz_int, fz_bl, fz_non])))
      exact hold ⟨trivial, _, _, rfl, h.mono (by omega), by rw [List.length_set]; exact hh⟩
    · (repeat (first | (refine Q.seq ?_) | (refine Q.asg ?_) | (refine Q.ret ?_) | (refine Q.drop ?_) | (refine Q.nxt ?_) | (refine Q.setB rfl ?_) | (refine Q.val (by rfl) (by first | rfl | (simp only [cln_tup, cln_lst, clns_cons, clns_nil, clns_izs, clns_eds, cln_edge, cln_int, Bool.and_self, Bool.not_false, Bool.and_true, Bool.true_and]; first | done | fail)) ?_) | (refine Q.valv (by rfl) ?_) | (refine Q.takeI (by rfl) ?_) | (refine Q.consA ?_) | (refine Q.consO ?_) | (refine Q.nilO ?_) | (refine Q.nilP ?_) | (refine Q.tupM ?_) | (refine Q.lstM ?_) | (refine Q.dicE ?_) | (refine Q.call ?_) | (refine Q.refA (by rfl) ?_) | (refine Q.subI (by rfl) ?_) | (refine Q.valA ?_) | (refine Q.nilA ?_) | (refine Q.op2 ?_) | (refine Q.un ?_) | (refine Q.callA ?_) | (refine Q.callS ?_) | (refine Q.forS ?_) | (refine Q.iter ?_) | (refine Q.rng1 ?_) | (refine Q.rng2 ?_) | (refine Q.gtup rfl ?_) | (refine Q.gcons ?_) | (refine Q.gnil ?_) | (refine Q.put0 (by rfl) ?_) | (refine retK_rt (by rfl) ?_) | (refine ⟨Nat.le_of_ble_eq_true rfl, ?_⟩) | (refine ⟨_, rfl, big_ok (by omega) (by omega), ?_⟩) | (refine ⟨_, _, rfl, Bool.and_eq_true_iff.mpr ⟨big_ok (by omega) (by omega), big_ok (by omega) (by omega)⟩, ?_⟩) | (refine Q.truP ?_) | (refine Q.mbl ?_) | (refine Q.mtru ?_) | (refine Q.mnot ?_) | (refine Q.mor ?_) | (refine Q.mand ?_) | (refine ⟨by rfl, _, _, by rfl, ?_⟩) | (refine ⟨_, _, _, by rfl, by rfl, ?_⟩) | (refine ew_add ?_) | (refine ey_add ?_) | (refine ew_ii (by first | rfl | exact decide_eq_true (by omega) | exact cMul_l (by omega) (by omega) | exact cMul_r (by omega) (by omega)) ?_) | (refine ew_mul (by first | rfl | exact cMul_l (by omega) (by omega) | exact cMul_r (by omega) (by omega)) ?_) | (refine ey_ii (by first | rfl | exact decide_eq_true (by omega) | exact cMul_l (by omega) (by omega) | exact cMul_r (by omega) (by omega)) ?_) | (refine ey_mul (by first | rfl | exact cMul_l (by omega) (by omega) | exact cMul_r (by omega) (by omega)) ?_) | (refine ew_neg ?_) | (refine ey_neg ?_) | (refine ew_iB ?_) | (refine ey_iB ?_) | (refine ⟨_, by rfl, ?_⟩) | (refine ⟨(show List.length _ = _ from rfl), ?_⟩) | (simp only [wip, resto, List.getElem?_cons_zero, List.getElem?_cons_succ, Option.join_some, Option.join_none, Int.reduceToNat, seqK_nx, seqK_rt, turnK_nx, turnK_ct, maxI_eq, minI_eq, izs_len, fz_tup, fz_lst, fz_dic, fzs_eds, fzs_izs, fzs_nil, fzs_cons, takeArgs, refPos, refsOf, putBack, List.set_cons_zero, List.set_cons_succ, fz_int, fz_bl, fz_non])))
      exact hold ⟨trivial, _, hs, rfl, h.mono (by omega), hh⟩
  rintro _ _ ⟨rfl, p, fs, rfl, h, hf⟩
  (repeat (first | (refine Q.seq ?_) | (refine Q.asg ?_) | (refine Q.ret ?_) | (refine Q.drop ?_) | (refine Q.nxt ?_) | (refine Q.setB rfl ?_) | (refine Q.val (by rfl) (by first | rfl | (simp only [cln_tup, cln_lst, clns_cons, clns_nil, clns_izs, clns_eds, cln_edge, cln_int, Bool.and_self, Bool.not_false, Bool.and_true, Bool.true_and]; first | done | fail)) ?_) | (refine Q.valv (by rfl) ?_) | (refine Q.takeI (by rfl) ?_) | (refine Q.consA ?_) | (refine Q.consO ?_) | (refine Q.nilO ?_) | (refine Q.nilP ?_) | (refine Q.tupM ?_) | (refine Q.lstM ?_) | (refine Q.dicE ?_) | (refine Q.call ?_) | (refine Q.refA (by rfl) ?_) | (refine Q.subI (by rfl) ?_) | (refine Q.valA ?_) | (refine Q.nilA ?_) | (refine Q.op2 ?_) | (refine Q.un ?_) | (refine Q.callA ?_) | (refine Q.callS ?_) | (refine Q.forS ?_) | (refine Q.iter ?_) | (refine Q.rng1 ?_) | (refine Q.rng2 ?_) | (refine Q.gtup rfl ?_) | (refine Q.gcons ?_) | (refine Q.gnil ?_) | (refine Q.put0 (by rfl) ?_) | (refine retK_rt (by rfl) ?_) | (refine ⟨Nat.le_of_ble_eq_true rfl, ?_⟩) | (refine ⟨_, rfl, big_ok (by omega) (by omega), ?_⟩) | (refine ⟨_, _, rfl, Bool.and_eq_true_iff.mpr ⟨big_ok (by omega) (by omega), big_ok (by omega) (by omega)⟩, ?_⟩) | (refine Q.truP ?_) | (refine Q.mbl ?_) | (refine Q.mtru ?_) | (refine Q.mnot ?_) | (refine Q.mor ?_) | (refine Q.mand ?_) | (refine ⟨by rfl, _, _, by rfl, ?_⟩) | (refine ⟨_, _, _, by rfl, by rfl, ?_⟩) | (refine ew_add ?_) | (refine ey_add ?_) | (refine ew_ii (by first | rfl | exact decide_eq_true (by omega) | exact cMul_l (by omega) (by omega) | exact cMul_r (by omega) (by omega)) ?_) | (refine ew_mul (by first | rfl | exact cMul_l (by omega) (by omega) | exact cMul_r (by omega) (by omega)) ?_) | (refine ey_ii (by first | rfl | exact decide_eq_true (by omega) | exact cMul_l (by omega) (by omega) | exact cMul_r (by omega) (by omega)) ?_) | (refine ey_mul (by first | rfl | exact cMul_l (by omega) (by omega) | exact cMul_r (by omega) (by omega)) ?_) | (refine ew_neg ?_) | (refine ey_neg ?_) | (refine ew_iB ?_) | (refine ey_iB ?_) | (refine ⟨_, by rfl, ?_⟩) | (refine ⟨(show List.length _ = _ from rfl), ?_⟩) | (simp only [wip, resto, List.getElem?_cons_zero, List.getElem?_cons_succ, Option.join_some, Option.join_none, Int.reduceToNat, seqK_nx, seqK_rt, turnK_nx, turnK_ct, maxI_eq, minI_eq, izs_len, fz_tup, fz_lst, fz_dic, fzs_eds, fzs_izs, fzs_nil, fzs_cons, takeArgs, refPos, refsOf, putBack, List.set_cons_zero, List.set_cons_succ, fz_int, fz_bl, fz_non])))
  refine cutH (fun f Γ1 => f = .nx ∧ ∃ (p : D) (fs : List Int), Γ1 = [some p, some (.int kind), some (webD n es), some (.int k), some (.lst false (izs hs)), some (.lst true (izs fs)), some (.int q), some (.lst false (izs l))] ∧ Pen (m + 3) p ∧ (fs.length : Int) = n) ?_ ?_
  · refine Q.ifC (decide (kind = 2) && !decide (l = [])) [some p, some (.int kind), some (webD n es), some (.int k), some (.lst false (izs hs)), some (.lst true (izs fs)), some (.int q), some (.lst false (izs l))] ?_ (fun hc => ?_) (fun hc => ?_)
    · (repeat (first | (refine Q.seq ?_) | (refine Q.asg ?_) | (refine Q.ret ?_) | (refine Q.drop ?_) | (refine Q.nxt ?_) | (refine Q.setB rfl ?_) | (refine Q.val (by rfl) (by first | rfl | (simp only [cln_tup, cln_lst, clns_cons, clns_nil, clns_izs, clns_eds, cln_edge, cln_int, Bool.and_self, Bool.not_false, Bool.and_true, Bool.true_and]; first | done | fail)) ?_) | (refine Q.valv (by rfl) ?_) | (refine Q.takeI (by rfl) ?_) | (refine Q.consA ?_) | (refine Q.consO ?_) | (refine Q.nilO ?_) | (refine Q.nilP ?_) | (refine Q.tupM ?_) | (refine Q.lstM ?_) | (refine Q.dicE ?_) | (refine Q.call ?_) | (refine Q.refA (by rfl) ?_) | (refine Q.subI (by rfl) ?_) | (refine Q.valA ?_) | (refine Q.nilA ?_) | (refine Q.op2 ?_) | (refine Q.un ?_) | (refine Q.callA ?_) | (refine Q.callS ?_) | (refine Q.forS ?_) | (refine Q.iter ?_) | (refine Q.rng1 ?_) | (refine Q.rng2 ?_) | (refine Q.gtup rfl ?_) | (refine Q.gcons ?_) | (refine Q.gnil ?_) | (refine Q.put0 (by rfl) ?_) | (refine retK_rt (by rfl) ?_) | (refine ⟨Nat.le_of_ble_eq_true rfl, ?_⟩) | (refine ⟨_, rfl, big_ok (by omega) (by omega), ?_⟩) | (refine ⟨_, _, rfl, Bool.and_eq_true_iff.mpr ⟨big_ok (by omega) (by omega), big_ok (by omega) (by omega)⟩, ?_⟩) | (refine Q.truP ?_) | (refine Q.mbl ?_) | (refine Q.mtru ?_) | (refine Q.mnot ?_) | (refine Q.mor ?_) | (refine Q.mand ?_) | (refine ⟨by rfl, _, _, by rfl, ?_⟩) | (refine ⟨_, _, _, by rfl, by rfl, ?_⟩) | (refine ew_add ?_) | (refine ey_add ?_) | (refine ew_ii (by first | rfl | exact decide_eq_true (by omega) | exact cMul_l (by omega) (by omega) | exact cMul_r (by omega) (by omega)) ?_) | (refine ew_mul (by first | rfl | exact cMul_l (by omega) (by omega) | exact cMul_r (by omega) (by omega)) ?_) | (refine ey_ii (by first | rfl | exact decide_eq_true (by omega) | exact cMul_l (by omega) (by omega) | exact cMul_r (by omega) (by omega)) ?_) | (refine ey_mul (by first | rfl | exact cMul_l (by omega) (by omega) | exact cMul_r (by omega) (by omega)) ?_) | (refine ew_neg ?_) | (refine ey_neg ?_) | (refine ew_iB ?_) | (refine ey_iB ?_) | (refine ⟨_, by rfl, ?_⟩) | (refine ⟨(show List.length _ = _ from rfl), ?_⟩) | (simp only [wip, resto, List.getElem?_cons_zero, List.getElem?_cons_succ, Option.join_some, Option.join_none, Int.reduceToNat, seqK_nx, seqK_rt, turnK_nx, turnK_ct, maxI_eq, minI_eq, izs_len, fz_tup, fz_lst, fz_dic, fzs_eds, fzs_izs, fzs_nil, fzs_cons, takeArgs, refPos, refsOf, putBack, List.set_cons_zero, List.set_cons_succ, fz_int, fz_bl, fz_non])))
      refine Q.tst (c := decide (kind = 2)) (by (simp (disch := omega) only [Int.reduceToNat, atI_z, atI_1, atI_2, List.set_cons_zero, List.set_cons_succ, pOp2, pVar, pCst, pCall, pCons, pNil, pBl, pTru, pNotB, pAndB, pOrB, pAnd, pOr, pNot, pChain, pIf, pUn, pSnoc, iiI, iiB, subX, lenX, blX, truD, seqD, negX, intX, List.getElem?_cons_zero, List.getElem?_cons_succ, List.nil_append, List.cons_append, Int.reduceLT, Int.reduceLE, and_self, and_true, true_and, Bool.and_true, Bool.true_and, decide_eq_true_eq, if_true, if_pos, decide_true, Option.map_some, Bool.false_eq_true, if_false, maxX, minX, eqX_int]) <;> rfl) ?_
      cases hk : decide (kind = 2) with
      | false => exact ⟨rfl, rfl⟩
      | true =>
        rw [if_pos rfl]
        (repeat (first | (refine Q.seq ?_) | (refine Q.asg ?_) | (refine Q.ret ?_) | (refine Q.drop ?_) | (refine Q.nxt ?_) | (refine Q.setB rfl ?_) | (refine Q.val (by rfl) (by first | rfl | (simp only [cln_tup, cln_lst, clns_cons, clns_nil, clns_izs, clns_eds, cln_edge, cln_int, Bool.and_self, Bool.not_false, Bool.and_true, Bool.true_and]; first | done | fail)) ?_) | (refine Q.valv (by rfl) ?_) | (refine Q.takeI (by rfl) ?_) | (refine Q.consA ?_) | (refine Q.consO ?_) | (refine Q.nilO ?_) | (refine Q.nilP ?_) | (refine Q.tupM ?_) | (refine Q.lstM ?_) | (refine Q.dicE ?_) | (refine Q.call ?_) | (refine Q.refA (by rfl) ?_) | (refine Q.subI (by rfl) ?_) | (refine Q.valA ?_) | (refine Q.nilA ?_) | (refine Q.op2 ?_) | (refine Q.un ?_) | (refine Q.callA ?_) | (refine Q.callS ?_) | (refine Q.forS ?_) | (refine Q.iter ?_) | (refine Q.rng1 ?_) | (refine Q.rng2 ?_) | (refine Q.gtup rfl ?_) | (refine Q.gcons ?_) | (refine Q.gnil ?_) | (refine Q.put0 (by rfl) ?_) | (refine retK_rt (by rfl) ?_) | (refine ⟨Nat.le_of_ble_eq_true rfl, ?_⟩) | (refine ⟨_, rfl, big_ok (by omega) (by omega), ?_⟩) | (refine ⟨_, _, rfl, Bool.and_eq_true_iff.mpr ⟨big_ok (by omega) (by omega), big_ok (by omega) (by omega)⟩, ?_⟩) | (refine Q.truP ?_) | (refine Q.mbl ?_) | (refine Q.mtru ?_) | (refine Q.mnot ?_) | (refine Q.mor ?_) | (refine Q.mand ?_) | (refine ⟨by rfl, _, _, by rfl, ?_⟩) | (refine ⟨_, _, _, by rfl, by rfl, ?_⟩) | (refine ew_add ?_) | (refine ey_add ?_) | (refine ew_ii (by first | rfl | exact decide_eq_true (by omega) | exact cMul_l (by omega) (by omega) | exact cMul_r (by omega) (by omega)) ?_) | (refine ew_mul (by first | rfl | exact cMul_l (by omega) (by omega) | exact cMul_r (by omega) (by omega)) ?_) | (refine ey_ii (by first | rfl | exact decide_eq_true (by omega) | exact cMul_l (by omega) (by omega) | exact cMul_r (by omega) (by omega)) ?_) | (refine ey_mul (by first | rfl | exact cMul_l (by omega) (by omega) | exact cMul_r (by omega) (by omega)) ?_) | (refine ew_neg ?_) | (refine ey_neg ?_) | (refine ew_iB ?_) | (refine ey_iB ?_) | (refine ⟨_, by rfl, ?_⟩) | (refine ⟨(show List.length _ = _ from rfl), ?_⟩) | (simp only [wip, resto, List.getElem?_cons_zero, List.getElem?_cons_succ, Option.join_some, Option.join_none, Int.reduceToNat, seqK_nx, seqK_rt, turnK_nx, turnK_ct, maxI_eq, minI_eq, izs_len, fz_tup, fz_lst, fz_dic, fzs_eds, fzs_izs, fzs_nil, fzs_cons, takeArgs, refPos, refsOf, putBack, List.set_cons_zero, List.set_cons_succ, fz_int, fz_bl, fz_non])))
        refine ⟨_, by (unfold gC; rw [neX_lst0]) <;> rfl, _, rfl, by rw [Bool.true_and], trivial⟩
    · have hne : l ≠ [] := by
        have := (Bool.and_eq_true_iff.mp hc).2
        simpa using this
      have hp0 : 0 < l.length := List.length_pos_iff.mpr hne
      (repeat (first | (refine Q.seq ?_) | (refine Q.asg ?_) | (refine Q.ret ?_) | (refine Q.drop ?_) | (refine Q.nxt ?_) | (refine Q.setB rfl ?_) | (refine Q.val (by rfl) (by first | rfl | (simp only [cln_tup, cln_lst, clns_cons, clns_nil, clns_izs, clns_eds, cln_edge, cln_int, Bool.and_self, Bool.not_false, Bool.and_true, Bool.true_and]; first | done | fail)) ?_) | (refine Q.valv (by rfl) ?_) | (refine Q.takeI (by rfl) ?_) | (refine Q.consA ?_) | (refine Q.consO ?_) | (refine Q.nilO ?_) | (refine Q.nilP ?_) | (refine Q.tupM ?_) | (refine Q.lstM ?_) | (refine Q.dicE ?_) | (refine Q.call ?_) | (refine Q.refA (by rfl) ?_) | (refine Q.subI (by rfl) ?_) | (refine Q.valA ?_) | (refine Q.nilA ?_) | (refine Q.op2 ?_) | (refine Q.un ?_) | (refine Q.callA ?_) | (refine Q.callS ?_) | (refine Q.forS ?_) | (refine Q.iter ?_) | (refine Q.rng1 ?_) | (refine Q.rng2 ?_) | (refine Q.gtup rfl ?_) | (refine Q.gcons ?_) | (refine Q.gnil ?_) | (refine Q.put0 (by rfl) ?_) | (refine retK_rt (by rfl) ?_) | (refine ⟨Nat.le_of_ble_eq_true rfl, ?_⟩) | (refine ⟨_, rfl, big_ok (by omega) (by omega), ?_⟩) | (refine ⟨_, _, rfl, Bool.and_eq_true_iff.mpr ⟨big_ok (by omega) (by omega), big_ok (by omega) (by omega)⟩, ?_⟩) | (refine Q.truP ?_) | (refine Q.mbl ?_) | (refine Q.mtru ?_) | (refine Q.mnot ?_) | (refine Q.mor ?_) | (refine Q.mand ?_) | (refine ⟨by rfl, _, _, by rfl, ?_⟩) | (refine ⟨_, _, _, by rfl, by rfl, ?_⟩) | (refine ew_add ?_) | (refine ey_add ?_) | (refine ew_ii (by first | rfl | exact decide_eq_true (by omega) | exact cMul_l (by omega) (by omega) | exact cMul_r (by omega) (by omega)) ?_) | (refine ew_mul (by first | rfl | exact cMul_l (by omega) (by omega) | exact cMul_r (by omega) (by omega)) ?_) | (refine ey_ii (by first | rfl | exact decide_eq_true (by omega) | exact cMul_l (by omega) (by omega) | exact cMul_r (by omega) (by omega)) ?_) | (refine ey_mul (by first | rfl | exact cMul_l (by omega) (by omega) | exact cMul_r (by omega) (by omega)) ?_) | (refine ew_neg ?_) | (refine ey_neg ?_) | (refine ew_iB ?_) | (refine ey_iB ?_) | (refine ⟨_, by rfl, ?_⟩) | (refine ⟨(show List.length _ = _ from rfl), ?_⟩) | (simp only [wip, resto, List.getElem?_cons_zero, List.getElem?_cons_succ, Option.join_some, Option.join_none, Int.reduceToNat, seqK_nx, seqK_rt, turnK_nx, turnK_ct, maxI_eq, minI_eq, izs_len, fz_tup, fz_lst, fz_dic, fzs_eds, fzs_izs, fzs_nil, fzs_cons, takeArgs, refPos, refsOf, putBack, List.set_cons_zero, List.set_cons_succ, fz_int, fz_bl, fz_non])))
      (refine (draw_ok (by assumption) (by omega) (by omega) (by omega)).imp ?_; rintro _ _ ⟨y, hd, rfl, y0, y1, rfl, h⟩)
      (repeat (first | (refine Q.seq ?_) | (refine Q.asg ?_) | (refine Q.ret ?_) | (refine Q.drop ?_) | (refine Q.nxt ?_) | (refine Q.setB rfl ?_) | (refine Q.val (by rfl) (by first | rfl | (simp only [cln_tup, cln_lst, clns_cons, clns_nil, clns_izs, clns_eds, cln_edge, cln_int, Bool.and_self, Bool.not_false, Bool.and_true, Bool.true_and]; first | done | fail)) ?_) | (refine Q.valv (by rfl) ?_) | (refine Q.takeI (by rfl) ?_) | (refine Q.consA ?_) | (refine Q.consO ?_) | (refine Q.nilO ?_) | (refine Q.nilP ?_) | (refine Q.tupM ?_) | (refine Q.lstM ?_) | (refine Q.dicE ?_) | (refine Q.call ?_) | (refine Q.refA (by rfl) ?_) | (refine Q.subI (by rfl) ?_) | (refine Q.valA ?_) | (refine Q.nilA ?_) | (refine Q.op2 ?_) | (refine Q.un ?_) | (refine Q.callA ?_) | (refine Q.callS ?_) | (refine Q.forS ?_) | (refine Q.iter ?_) | (refine Q.rng1 ?_) | (refine Q.rng2 ?_) | (refine Q.gtup rfl ?_) | (refine Q.gcons ?_) | (refine Q.gnil ?_) | (refine Q.put0 (by rfl) ?_) | (refine retK_rt (by rfl) ?_) | (refine ⟨Nat.le_of_ble_eq_true rfl, ?_⟩) | (refine ⟨_, rfl, big_ok (by omega) (by omega), ?_⟩) | (refine ⟨_, _, rfl, Bool.and_eq_true_iff.mpr ⟨big_ok (by omega) (by omega), big_ok (by omega) (by omega)⟩, ?_⟩) | (refine Q.truP ?_) | (refine Q.mbl ?_) | (refine Q.mtru ?_) | (refine Q.mnot ?_) | (refine Q.mor ?_) | (refine Q.mand ?_) | (refine ⟨by rfl, _, _, by rfl, ?_⟩) | (refine ⟨_, _, _, by rfl, by rfl, ?_⟩) | (refine ew_add ?_) | (refine ey_add ?_) | (refine ew_ii (by first | rfl | exact decide_eq_true (by omega) | exact cMul_l (by omega) (by omega) | exact cMul_r (by omega) (by omega)) ?_) | (refine ew_mul (by first | rfl | exact cMul_l (by omega) (by omega) | exact cMul_r (by omega) (by omega)) ?_) | (refine ey_ii (by first | rfl | exact decide_eq_true (by omega) | exact cMul_l (by omega) (by omega) | exact cMul_r (by omega) (by omega)) ?_) | (refine ey_mul (by first | rfl | exact cMul_l (by omega) (by omega) | exact cMul_r (by omega) (by omega)) ?_) | (refine ew_neg ?_) | (refine ey_neg ?_) | (refine ew_iB ?_) | (refine ey_iB ?_) | (refine ⟨_, by rfl, ?_⟩) | (refine ⟨(show List.length _ = _ from rfl), ?_⟩) | (simp only [wip, resto, List.getElem?_cons_zero, List.getElem?_cons_succ, Option.join_some, Option.join_none, Int.reduceToNat, seqK_nx, seqK_rt, turnK_nx, turnK_ct, maxI_eq, minI_eq, izs_len, fz_tup, fz_lst, fz_dic, fzs_eds, fzs_izs, fzs_nil, fzs_cons, takeArgs, refPos, refsOf, putBack, List.set_cons_zero, List.set_cons_succ, fz_int, fz_bl, fz_non])))
      obtain ⟨x, _, xm, hx⟩ := atI_izs (xs := l) y0 y1
      (refine Q.val (by (simp (disch := omega) only [Int.reduceToNat, atI_z, atI_1, atI_2, List.set_cons_zero, List.set_cons_succ, pOp2, pVar, pCst, pCall, pCons, pNil, pBl, pTru, pNotB, pAndB, pOrB, pAnd, pOr, pNot, pChain, pIf, pUn, pSnoc, iiI, iiB, subX, lenX, blX, truD, seqD, negX, intX, List.getElem?_cons_zero, List.getElem?_cons_succ, List.nil_append, List.cons_append, Int.reduceLT, Int.reduceLE, and_self, and_true, true_and, Bool.and_true, Bool.true_and, decide_eq_true_eq, if_true, if_pos, decide_true, Option.map_some, Bool.false_eq_true, if_false, maxX, minX, hx]) <;> rfl) (by rfl) ?_)
      (repeat (first | (refine Q.seq ?_) | (refine Q.asg ?_) | (refine Q.ret ?_) | (refine Q.drop ?_) | (refine Q.nxt ?_) | (refine Q.setB rfl ?_) | (refine Q.val (by rfl) (by first | rfl | (simp only [cln_tup, cln_lst, clns_cons, clns_nil, clns_izs, clns_eds, cln_edge, cln_int, Bool.and_self, Bool.not_false, Bool.and_true, Bool.true_and]; first | done | fail)) ?_) | (refine Q.valv (by rfl) ?_) | (refine Q.takeI (by rfl) ?_) | (refine Q.consA ?_) | (refine Q.consO ?_) | (refine Q.nilO ?_) | (refine Q.nilP ?_) | (refine Q.tupM ?_) | (refine Q.lstM ?_) | (refine Q.dicE ?_) | (refine Q.call ?_) | (refine Q.refA (by rfl) ?_) | (refine Q.subI (by rfl) ?_) | (refine Q.valA ?_) | (refine Q.nilA ?_) | (refine Q.op2 ?_) | (refine Q.un ?_) | (refine Q.callA ?_) | (refine Q.callS ?_) | (refine Q.forS ?_) | (refine Q.iter ?_) | (refine Q.rng1 ?_) | (refine Q.rng2 ?_) | (refine Q.gtup rfl ?_) | (refine Q.gcons ?_) | (refine Q.gnil ?_) | (refine Q.put0 (by rfl) ?_) | (refine retK_rt (by rfl) ?_) | (refine ⟨Nat.le_of_ble_eq_true rfl, ?_⟩) | (refine ⟨_, rfl, big_ok (by omega) (by omega), ?_⟩) | (refine ⟨_, _, rfl, Bool.and_eq_true_iff.mpr ⟨big_ok (by omega) (by omega), big_ok (by omega) (by omega)⟩, ?_⟩) | (refine Q.truP ?_) | (refine Q.mbl ?_) | (refine Q.mtru ?_) | (refine Q.mnot ?_) | (refine Q.mor ?_) | (refine Q.mand ?_) | (refine ⟨by rfl, _, _, by rfl, ?_⟩) | (refine ⟨_, _, _, by rfl, by rfl, ?_⟩) | (refine ew_add ?_) | (refine ey_add ?_) | (refine ew_ii (by first | rfl | exact decide_eq_true (by omega) | exact cMul_l (by omega) (by omega) | exact cMul_r (by omega) (by omega)) ?_) | (refine ew_mul (by first | rfl | exact cMul_l (by omega) (by omega) | exact cMul_r (by omega) (by omega)) ?_) | (refine ey_ii (by first | rfl | exact decide_eq_true (by omega) | exact cMul_l (by omega) (by omega) | exact cMul_r (by omega) (by omega)) ?_) | (refine ey_mul (by first | rfl | exact cMul_l (by omega) (by omega) | exact cMul_r (by omega) (by omega)) ?_) | (refine ew_neg ?_) | (refine ey_neg ?_) | (refine ew_iB ?_) | (refine ey_iB ?_) | (refine ⟨_, by rfl, ?_⟩) | (refine ⟨(show List.length _ = _ from rfl), ?_⟩) | (simp only [wip, resto, List.getElem?_cons_zero, List.getElem?_cons_succ, Option.join_some, Option.join_none, Int.reduceToNat, seqK_nx, seqK_rt, turnK_nx, turnK_ct, maxI_eq, minI_eq, izs_len, fz_tup, fz_lst, fz_dic, fzs_eds, fzs_izs, fzs_nil, fzs_cons, takeArgs, refPos, refsOf, putBack, List.set_cons_zero, List.set_cons_succ, fz_int, fz_bl, fz_non])))
      have x0 := l0.2 x xm
      obtain ⟨z, _, _, hz⟩ := atI_izs (xs := fs) x0.1 (by omega)
      (refine Q.val (by (simp (disch := omega) only [Int.reduceToNat, atI_z, atI_1, atI_2, List.set_cons_zero, List.set_cons_succ, pOp2, pVar, pCst, pCall, pCons, pNil, pBl, pTru, pNotB, pAndB, pOrB, pAnd, pOr, pNot, pChain, pIf, pUn, pSnoc, iiI, iiB, subX, lenX, blX, truD, seqD, negX, intX, List.getElem?_cons_zero, List.getElem?_cons_succ, List.nil_append, List.cons_append, Int.reduceLT, Int.reduceLE, and_self, and_true, true_and, Bool.and_true, Bool.true_and, decide_eq_true_eq, if_true, if_pos, decide_true, Option.map_some, Bool.false_eq_true, if_false, maxX, minX, hz]) <;> rfl) (by rfl) ?_)
      (repeat (first | (refine Q.seq ?_) | (refine Q.asg ?_) | (refine Q.ret ?_) | (refine Q.drop ?_) | (refine Q.nxt ?_) | (refine Q.setB rfl ?_) | (refine Q.val (by rfl) (by first | rfl | (simp only [cln_tup, cln_lst, clns_cons, clns_nil, clns_izs, clns_eds, cln_edge, cln_int, Bool.and_self, Bool.not_false, Bool.and_true, Bool.true_and]; first | done | fail)) ?_) | (refine Q.valv (by rfl) ?_) | (refine Q.takeI (by rfl) ?_) | (refine Q.consA ?_) | (refine Q.consO ?_) | (refine Q.nilO ?_) | (refine Q.nilP ?_) | (refine Q.tupM ?_) | (refine Q.lstM ?_) | (refine Q.dicE ?_) | (refine Q.call ?_) | (refine Q.refA (by rfl) ?_) | (refine Q.subI (by rfl) ?_) | (refine Q.valA ?_) | (refine Q.nilA ?_) | (refine Q.op2 ?_) | (refine Q.un ?_) | (refine Q.callA ?_) | (refine Q.callS ?_) | (refine Q.forS ?_) | (refine Q.iter ?_) | (refine Q.rng1 ?_) | (refine Q.rng2 ?_) | (refine Q.gtup rfl ?_) | (refine Q.gcons ?_) | (refine Q.gnil ?_) | (refine Q.put0 (by rfl) ?_) | (refine retK_rt (by rfl) ?_) | (refine ⟨Nat.le_of_ble_eq_true rfl, ?_⟩) | (refine ⟨_, rfl, big_ok (by omega) (by omega), ?_⟩) | (refine ⟨_, _, rfl, Bool.and_eq_true_iff.mpr ⟨big_ok (by omega) (by omega), big_ok (by omega) (by omega)⟩, ?_⟩) | (refine Q.truP ?_) | (refine Q.mbl ?_) | (refine Q.mtru ?_) | (refine Q.mnot ?_) | (refine Q.mor ?_) | (refine Q.mand ?_) | (refine ⟨by rfl, _, _, by rfl, ?_⟩) | (refine ⟨_, _, _, by rfl, by rfl, ?_⟩) | (refine ew_add ?_) | (refine ey_add ?_) | (refine ew_ii (by first | rfl | exact decide_eq_true (by omega) | exact cMul_l (by omega) (by omega) | exact cMul_r (by omega) (by omega)) ?_) | (refine ew_mul (by first | rfl | exact cMul_l (by omega) (by omega) | exact cMul_r (by omega) (by omega)) ?_) | (refine ey_ii (by first | rfl | exact decide_eq_true (by omega) | exact cMul_l (by omega) (by omega) | exact cMul_r (by omega) (by omega)) ?_) | (refine ey_mul (by first | rfl | exact cMul_l (by omega) (by omega) | exact cMul_r (by omega) (by omega)) ?_) | (refine ew_neg ?_) | (refine ey_neg ?_) | (refine ew_iB ?_) | (refine ey_iB ?_) | (refine ⟨_, by rfl, ?_⟩) | (refine ⟨(show List.length _ = _ from rfl), ?_⟩) | (simp only [wip, resto, List.getElem?_cons_zero, List.getElem?_cons_succ, Option.join_some, Option.join_none, Int.reduceToNat, seqK_nx, seqK_rt, turnK_nx, turnK_ct, maxI_eq, minI_eq, izs_len, fz_tup, fz_lst, fz_dic, fzs_eds, fzs_izs, fzs_nil, fzs_cons, takeArgs, refPos, refsOf, putBack, List.set_cons_zero, List.set_cons_succ, fz_int, fz_bl, fz_non])))
      refine ⟨_, _, _, by rfl, store_izs q0 (by omega), ?_⟩
      (repeat (first | (refine Q.seq ?_) | (refine Q.asg ?_) | (refine Q.ret ?_) | (refine Q.drop ?_) | (refine Q.nxt ?_) | (refine Q.setB rfl ?_) | (refine Q.val (by rfl) (by first | rfl | (simp only [cln_tup, cln_lst, clns_cons, clns_nil, clns_izs, clns_eds, cln_edge, cln_int, Bool.and_self, Bool.not_false, Bool.and_true, Bool.true_and]; first | done | fail)) ?_) | (refine Q.valv (by rfl) ?_) | (refine Q.takeI (by rfl) ?_) | (refine Q.consA ?_) | (refine Q.consO ?_) | (refine Q.nilO ?_) | (refine Q.nilP ?_) | (refine Q.tupM ?_) | (refine Q.lstM ?_) | (refine Q.dicE ?_) | (refine Q.call ?_) | (refine Q.refA (by rfl) ?_) | (refine Q.subI (by rfl) ?_) | (refine Q.valA ?_) | (refine Q.nilA ?_) | (refine Q.op2 ?_) | (refine Q.un ?_) | (refine Q.callA ?_) | (refine Q.callS ?_) | (refine Q.forS ?_) | (refine Q.iter ?_) | (refine Q.rng1 ?_) | (refine Q.rng2 ?_) | (refine Q.gtup rfl ?_) | (refine Q.gcons ?_) | (refine Q.gnil ?_) | (refine Q.put0 (by rfl) ?_) | (refine retK_rt (by rfl) ?_) | (refine ⟨Nat.le_of_ble_eq_true rfl, ?_⟩) | (refine ⟨_, rfl, big_ok (by omega) (by omega), ?_⟩) | (refine ⟨_, _, rfl, Bool.and_eq_true_iff.mpr ⟨big_ok (by omega) (by omega), big_ok (by omega) (by omega)⟩, ?_⟩) | (refine Q.truP ?_) | (refine Q.mbl ?_) | (refine Q.mtru ?_) | (refine Q.mnot ?_) | (refine Q.mor ?_) | (refine Q.mand ?_) | (refine ⟨by rfl, _, _, by rfl, ?_⟩) | (refine ⟨_, _, _, by rfl, by rfl, ?_⟩) | (refine ew_add ?_) | (refine ey_add ?_) | (refine ew_ii (by first | rfl | exact decide_eq_true (by omega) | exact cMul_l (by omega) (by omega) | exact cMul_r (by omega) (by omega)) ?_) | (refine ew_mul (by first | rfl | exact cMul_l (by omega) (by omega) | exact cMul_r (by omega) (by omega)) ?_) | (refine ey_ii (by first | rfl | exact decide_eq_true (by omega) | exact cMul_l (by omega) (by omega) | exact cMul_r (by omega) (by omega)) ?_) | (refine ey_mul (by first | rfl | exact cMul_l (by omega) (by omega) | exact cMul_r (by omega) (by omega)) ?_) | (refine ew_neg ?_) | (refine ey_neg ?_) | (refine ew_iB ?_) | (refine ey_iB ?_) | (refine ⟨_, by rfl, ?_⟩) | (refine ⟨(show List.length _ = _ from rfl), ?_⟩) | (simp only [wip, resto, List.getElem?_cons_zero, List.getElem?_cons_succ, Option.join_some, Option.join_none, Int.reduceToNat, seqK_nx, seqK_rt, turnK_nx, turnK_ct, maxI_eq, minI_eq, izs_len, fz_tup, fz_lst, fz_dic, fzs_eds, fzs_izs, fzs_nil, fzs_cons, takeArgs, refPos, refsOf, putBack, List.set_cons_zero, List.set_cons_succ, fz_int, fz_bl, fz_non])))
      exact hold ⟨trivial, _, _, rfl, h.mono (by omega), by rw [List.length_set]; exact hf⟩
    · (repeat (first | (refine Q.seq ?_) | (refine Q.asg ?_) | (refine Q.ret ?_) | (refine Q.drop ?_) | (refine Q.nxt ?_) | (refine Q.setB rfl ?_) | (refine Q.val (by rfl) (by first | rfl | (simp only [cln_tup, cln_lst, clns_cons, clns_nil, clns_izs, clns_eds, cln_edge, cln_int, Bool.and_self, Bool.not_false, Bool.and_true, Bool.true_and]; first | done | fail)) ?_) | (refine Q.valv (by rfl) ?_) | (refine Q.takeI (by rfl) ?_) | (refine Q.consA ?_) | (refine Q.consO ?_) | (refine Q.nilO ?_) | (refine Q.nilP ?_) | (refine Q.tupM ?_) | (refine Q.lstM ?_) | (refine Q.dicE ?_) | (refine Q.call ?_) | (refine Q.refA (by rfl) ?_) | (refine Q.subI (by rfl) ?_) | (refine Q.valA ?_) | (refine Q.nilA ?_) | (refine Q.op2 ?_) | (refine Q.un ?_) | (refine Q.callA ?_) | (refine Q.callS ?_) | (refine Q.forS ?_) | (refine Q.iter ?_) | (refine Q.rng1 ?_) | (refine Q.rng2 ?_) | (refine Q.gtup rfl ?_) | (refine Q.gcons ?_) | (refine Q.gnil ?_) | (refine Q.put0 (by rfl) ?_) | (refine retK_rt (by rfl) ?_) | (refine ⟨Nat.le_of_ble_eq_true rfl, ?_⟩) | (refine ⟨_, rfl, big_ok (by omega) (by omega), ?_⟩) | (refine ⟨_, _, rfl, Bool.and_eq_true_iff.mpr ⟨big_ok (by omega) (by omega), big_ok (by omega) (by omega)⟩, ?_⟩) | (refine Q.truP ?_) | (refine Q.mbl ?_) | (refine Q.mtru ?_) | (refine Q.mnot ?_) | (refine Q.mor ?_) | (refine Q.mand ?_) | (refine ⟨by rfl, _, _, by rfl, ?_⟩) | (refine ⟨_, _, _, by rfl, by rfl, ?_⟩) | (refine ew_add ?_) | (refine ey_add ?_) | (refine ew_ii (by first | rfl | exact decide_eq_true (by omega) | exact cMul_l (by omega) (by omega) | exact cMul_r (by omega) (by omega)) ?_) | (refine ew_mul (by first | rfl | exact cMul_l (by omega) (by omega) | exact cMul_r (by omega) (by omega)) ?_) | (refine ey_ii (by first | rfl | exact decide_eq_true (by omega) | exact cMul_l (by omega) (by omega) | exact cMul_r (by omega) (by omega)) ?_) | (refine ey_mul (by first | rfl | exact cMul_l (by omega) (by omega) | exact cMul_r (by omega) (by omega)) ?_) | (refine ew_neg ?_) | (refine ey_neg ?_) | (refine ew_iB ?_) | (refine ey_iB ?_) | (refine ⟨_, by rfl, ?_⟩) | (refine ⟨(show List.length _ = _ from rfl), ?_⟩) | (simp only [wip, resto, List.getElem?_cons_zero, List.getElem?_cons_succ, Option.join_some, Option.join_none, Int.reduceToNat, seqK_nx, seqK_rt, turnK_nx, turnK_ct, maxI_eq, minI_eq, izs_len, fz_tup, fz_lst, fz_dic, fzs_eds, fzs_izs, fzs_nil, fzs_cons, takeArgs, refPos, refsOf, putBack, List.set_cons_zero, List.set_cons_succ, fz_int, fz_bl, fz_non])))
      exact hold ⟨trivial, _, fs, rfl, h.mono (by omega), hf⟩
  rintro _ _ ⟨rfl, p, fs, rfl, h, hf⟩
  (repeat (first | (refine Q.seq ?_) | (refine Q.asg ?_) | (refine Q.ret ?_) | (refine Q.drop ?_) | (refine Q.nxt ?_) | (refine Q.setB rfl ?_) | (refine Q.val (by rfl) (by first | rfl | (simp only [cln_tup, cln_lst, clns_cons, clns_nil, clns_izs, clns_eds, cln_edge, cln_int, Bool.and_self, Bool.not_false, Bool.and_true, Bool.true_and]; first | done | fail)) ?_) | (refine Q.valv (by rfl) ?_) | (refine Q.takeI (by rfl) ?_) | (refine Q.consA ?_) | (refine Q.consO ?_) | (refine Q.nilO ?_) | (refine Q.nilP ?_) | (refine Q.tupM ?_) | (refine Q.lstM ?_) | (refine Q.dicE ?_) | (refine Q.call ?_) | (refine Q.refA (by rfl) ?_) | (refine Q.subI (by rfl) ?_) | (refine Q.valA ?_) | (refine Q.nilA ?_) | (refine Q.op2 ?_) | (refine Q.un ?_) | (refine Q.callA ?_) | (refine Q.callS ?_) | (refine Q.forS ?_) | (refine Q.iter ?_) | (refine Q.rng1 ?_) | (refine Q.rng2 ?_) | (refine Q.gtup rfl ?_) | (refine Q.gcons ?_) | (refine Q.gnil ?_) | (refine Q.put0 (by rfl) ?_) | (refine retK_rt (by rfl) ?_) | (refine ⟨Nat.le_of_ble_eq_true rfl, ?_⟩) | (refine ⟨_, rfl, big_ok (by omega) (by omega), ?_⟩) | (refine ⟨_, _, rfl, Bool.and_eq_true_iff.mpr ⟨big_ok (by omega) (by omega), big_ok (by omega) (by omega)⟩, ?_⟩) | (refine Q.truP ?_) | (refine Q.mbl ?_) | (refine Q.mtru ?_) | (refine Q.mnot ?_) | (refine Q.mor ?_) | (refine Q.mand ?_) | (refine ⟨by rfl, _, _, by rfl, ?_⟩) | (refine ⟨_, _, _, by rfl, by rfl, ?_⟩) | (refine ew_add ?_) | (refine ey_add ?_) | (refine ew_ii (by first | rfl | exact decide_eq_true (by omega) | exact cMul_l (by omega) (by omega) | exact cMul_r (by omega) (by omega)) ?_) | (refine ew_mul (by first | rfl | exact cMul_l (by omega) (by omega) | exact cMul_r (by omega) (by omega)) ?_) | (refine ey_ii (by first | rfl | exact decide_eq_true (by omega) | exact cMul_l (by omega) (by omega) | exact cMul_r (by omega) (by omega)) ?_) | (refine ey_mul (by first | rfl | exact cMul_l (by omega) (by omega) | exact cMul_r (by omega) (by omega)) ?_) | (refine ew_neg ?_) | (refine ey_neg ?_) | (refine ew_iB ?_) | (refine ey_iB ?_) | (refine ⟨_, by rfl, ?_⟩) | (refine ⟨(show List.length _ = _ from rfl), ?_⟩) | (simp only [wip, resto, List.getElem?_cons_zero, List.getElem?_cons_succ, Option.join_some, Option.join_none, Int.reduceToNat, seqK_nx, seqK_rt, turnK_nx, turnK_ct, maxI_eq, minI_eq, izs_len, fz_tup, fz_lst, fz_dic, fzs_eds, fzs_izs, fzs_nil, fzs_cons, takeArgs, refPos, refsOf, putBack, List.set_cons_zero, List.set_cons_succ, fz_int, fz_bl, fz_non])))
  refine cutH (fun f Γ1 => f = .nx ∧ ∃ (p : D) (fs : List Int), Γ1 = [some p, some (.int kind), some (webD n es), some (.int k), some (.lst false (izs hs)), some (.lst true (izs fs)), some (.int q), some (.lst false (izs l))] ∧ Pen (m + 4) p ∧ (fs.length : Int) = n) ?_ ?_
  · refine Q.ifP (c := decide (kind = 3)) (by (simp (disch := omega) only [Int.reduceToNat, atI_z, atI_1, atI_2, List.set_cons_zero, List.set_cons_succ, pOp2, pVar, pCst, pCall, pCons, pNil, pBl, pTru, pNotB, pAndB, pOrB, pAnd, pOr, pNot, pChain, pIf, pUn, pSnoc, iiI, iiB, subX, lenX, blX, truD, seqD, negX, intX, List.getElem?_cons_zero, List.getElem?_cons_succ, List.nil_append, List.cons_append, Int.reduceLT, Int.reduceLE, and_self, and_true, true_and, Bool.and_true, Bool.true_and, decide_eq_true_eq, if_true, if_pos, decide_true, Option.map_some, Bool.false_eq_true, if_false, maxX, minX, eqX_int]) <;> rfl) (fun hc => ?_) (fun hc => ?_)
    · (repeat (first | (refine Q.seq ?_) | (refine Q.asg ?_) | (refine Q.ret ?_) | (refine Q.drop ?_) | (refine Q.nxt ?_) | (refine Q.setB rfl ?_) | (refine Q.val (by rfl) (by first | rfl | (simp only [cln_tup, cln_lst, clns_cons, clns_nil, clns_izs, clns_eds, cln_edge, cln_int, Bool.and_self, Bool.not_false, Bool.and_true, Bool.true_and]; first | done | fail)) ?_) | (refine Q.valv (by rfl) ?_) | (refine Q.takeI (by rfl) ?_) | (refine Q.consA ?_) | (refine Q.consO ?_) | (refine Q.nilO ?_) | (refine Q.nilP ?_) | (refine Q.tupM ?_) | (refine Q.lstM ?_) | (refine Q.dicE ?_) | (refine Q.call ?_) | (refine Q.refA (by rfl) ?_) | (refine Q.subI (by rfl) ?_) | (refine Q.valA ?_) | (refine Q.nilA ?_) | (refine Q.op2 ?_) | (refine Q.un ?_) | (refine Q.callA ?_) | (refine Q.callS ?_) | (refine Q.forS ?_) | (refine Q.iter ?_) | (refine Q.rng1 ?_) | (refine Q.rng2 ?_) | (refine Q.gtup rfl ?_) | (refine Q.gcons ?_) | (refine Q.gnil ?_) | (refine Q.put0 (by rfl) ?_) | (refine retK_rt (by rfl) ?_) | (refine ⟨Nat.le_of_ble_eq_true rfl, ?_⟩) | (refine ⟨_, rfl, big_ok (by omega) (by omega), ?_⟩) | (refine ⟨_, _, rfl, Bool.and_eq_true_iff.mpr ⟨big_ok (by omega) (by omega), big_ok (by omega) (by omega)⟩, ?_⟩) | (refine Q.truP ?_) | (refine Q.mbl ?_) | (refine Q.mtru ?_) | (refine Q.mnot ?_) | (refine Q.mor ?_) | (refine Q.mand ?_) | (refine ⟨by rfl, _, _, by rfl, ?_⟩) | (refine ⟨_, _, _, by rfl, by rfl, ?_⟩) | (refine ew_add ?_) | (refine ey_add ?_) | (refine ew_ii (by first | rfl | exact decide_eq_true (by omega) | exact cMul_l (by omega) (by omega) | exact cMul_r (by omega) (by omega)) ?_) | (refine ew_mul (by first | rfl | exact cMul_l (by omega) (by omega) | exact cMul_r (by omega) (by omega)) ?_) | (refine ey_ii (by first | rfl | exact decide_eq_true (by omega) | exact cMul_l (by omega) (by omega) | exact cMul_r (by omega) (by omega)) ?_) | (refine ey_mul (by first | rfl | exact cMul_l (by omega) (by omega) | exact cMul_r (by omega) (by omega)) ?_) | (refine ew_neg ?_) | (refine ey_neg ?_) | (refine ew_iB ?_) | (refine ey_iB ?_) | (refine ⟨_, by rfl, ?_⟩) | (refine ⟨(show List.length _ = _ from rfl), ?_⟩) | (simp only [wip, resto, List.getElem?_cons_zero, List.getElem?_cons_succ, Option.join_some, Option.join_none, Int.reduceToNat, seqK_nx, seqK_rt, turnK_nx, turnK_ct, maxI_eq, minI_eq, izs_len, fz_tup, fz_lst, fz_dic, fzs_eds, fzs_izs, fzs_nil, fzs_cons, takeArgs, refPos, refsOf, putBack, List.set_cons_zero, List.set_cons_succ, fz_int, fz_bl, fz_non])))
      (refine (draw_ok (by assumption) (by omega) (by omega) (by omega)).imp ?_; rintro _ _ ⟨y, hd, rfl, y0, y1, rfl, h⟩)
      obtain ⟨x, _, xm, hx⟩ := gsub_izs (o := false) (xs := [-1, k, k + 1, 10 ^ 30 - 1, 1 - 10 ^ 30]) y0 (by simpa using y1)
      (repeat (first | (refine Q.seq ?_) | (refine Q.asg ?_) | (refine Q.ret ?_) | (refine Q.drop ?_) | (refine Q.nxt ?_) | (refine Q.setB rfl ?_) | (refine Q.val (by rfl) (by first | rfl | (simp only [cln_tup, cln_lst, clns_cons, clns_nil, clns_izs, clns_eds, cln_edge, cln_int, Bool.and_self, Bool.not_false, Bool.and_true, Bool.true_and]; first | done | fail)) ?_) | (refine Q.valv (by rfl) ?_) | (refine Q.takeI (by rfl) ?_) | (refine Q.consA ?_) | (refine Q.consO ?_) | (refine Q.nilO ?_) | (refine Q.nilP ?_) | (refine Q.tupM ?_) | (refine Q.lstM ?_) | (refine Q.dicE ?_) | (refine Q.call ?_) | (refine Q.refA (by rfl) ?_) | (refine Q.subI (by rfl) ?_) | (refine Q.valA ?_) | (refine Q.nilA ?_) | (refine Q.op2 ?_) | (refine Q.un ?_) | (refine Q.callA ?_) | (refine Q.callS ?_) | (refine Q.forS ?_) | (refine Q.iter ?_) | (refine Q.rng1 ?_) | (refine Q.rng2 ?_) | (refine Q.gtup rfl ?_) | (refine Q.gcons ?_) | (refine Q.gnil ?_) | (refine Q.put0 (by rfl) ?_) | (refine retK_rt (by rfl) ?_) | (refine ⟨Nat.le_of_ble_eq_true rfl, ?_⟩) | (refine ⟨_, rfl, big_ok (by omega) (by omega), ?_⟩) | (refine ⟨_, _, rfl, Bool.and_eq_true_iff.mpr ⟨big_ok (by omega) (by omega), big_ok (by omega) (by omega)⟩, ?_⟩) | (refine Q.truP ?_) | (refine Q.mbl ?_) | (refine Q.mtru ?_) | (refine Q.mnot ?_) | (refine Q.mor ?_) | (refine Q.mand ?_) | (refine ⟨by rfl, _, _, by rfl, ?_⟩) | (refine ⟨_, _, _, by rfl, by rfl, ?_⟩) | (refine ew_add ?_) | (refine ey_add ?_) | (refine ew_ii (by first | rfl | exact decide_eq_true (by omega) | exact cMul_l (by omega) (by omega) | exact cMul_r (by omega) (by omega)) ?_) | (refine ew_mul (by first | rfl | exact cMul_l (by omega) (by omega) | exact cMul_r (by omega) (by omega)) ?_) | (refine ey_ii (by first | rfl | exact decide_eq_true (by omega) | exact cMul_l (by omega) (by omega) | exact cMul_r (by omega) (by omega)) ?_) | (refine ey_mul (by first | rfl | exact cMul_l (by omega) (by omega) | exact cMul_r (by omega) (by omega)) ?_) | (refine ew_neg ?_) | (refine ey_neg ?_) | (refine ew_iB ?_) | (refine ey_iB ?_) | (refine ⟨_, by rfl, ?_⟩) | (refine ⟨(show List.length _ = _ from rfl), ?_⟩) | (simp only [wip, resto, List.getElem?_cons_zero, List.getElem?_cons_succ, Option.join_some, Option.join_none, Int.reduceToNat, seqK_nx, seqK_rt, turnK_nx, turnK_ct, maxI_eq, minI_eq, izs_len, fz_tup, fz_lst, fz_dic, fzs_eds, fzs_izs, fzs_nil, fzs_cons, takeArgs, refPos, refsOf, putBack, List.set_cons_zero, List.set_cons_succ, fz_int, fz_bl, fz_non])))
      refine ⟨_, hx, ?_⟩
      (repeat (first | (refine Q.seq ?_) | (refine Q.asg ?_) | (refine Q.ret ?_) | (refine Q.drop ?_) | (refine Q.nxt ?_) | (refine Q.setB rfl ?_) | (refine Q.val (by rfl) (by first | rfl | (simp only [cln_tup, cln_lst, clns_cons, clns_nil, clns_izs, clns_eds, cln_edge, cln_int, Bool.and_self, Bool.not_false, Bool.and_true, Bool.true_and]; first | done | fail)) ?_) | (refine Q.valv (by rfl) ?_) | (refine Q.takeI (by rfl) ?_) | (refine Q.consA ?_) | (refine Q.consO ?_) | (refine Q.nilO ?_) | (refine Q.nilP ?_) | (refine Q.tupM ?_) | (refine Q.lstM ?_) | (refine Q.dicE ?_) | (refine Q.call ?_) | (refine Q.refA (by rfl) ?_) | (refine Q.subI (by rfl) ?_) | (refine Q.valA ?_) | (refine Q.nilA ?_) | (refine Q.op2 ?_) | (refine Q.un ?_) | (refine Q.callA ?_) | (refine Q.callS ?_) | (refine Q.forS ?_) | (refine Q.iter ?_) | (refine Q.rng1 ?_) | (refine Q.rng2 ?_) | (refine Q.gtup rfl ?_) | (refine Q.gcons ?_) | (refine Q.gnil ?_) | (refine Q.put0 (by rfl) ?_) | (refine retK_rt (by rfl) ?_) | (refine ⟨Nat.le_of_ble_eq_true rfl, ?_⟩) | (refine ⟨_, rfl, big_ok (by omega) (by omega), ?_⟩) | (refine ⟨_, _, rfl, Bool.and_eq_true_iff.mpr ⟨big_ok (by omega) (by omega), big_ok (by omega) (by omega)⟩, ?_⟩) | (refine Q.truP ?_) | (refine Q.mbl ?_) | (refine Q.mtru ?_) | (refine Q.mnot ?_) | (refine Q.mor ?_) | (refine Q.mand ?_) | (refine ⟨by rfl, _, _, by rfl, ?_⟩) | (refine ⟨_, _, _, by rfl, by rfl, ?_⟩) | (refine ew_add ?_) | (refine ey_add ?_) | (refine ew_ii (by first | rfl | exact decide_eq_true (by omega) | exact cMul_l (by omega) (by omega) | exact cMul_r (by omega) (by omega)) ?_) | (refine ew_mul (by first | rfl | exact cMul_l (by omega) (by omega) | exact cMul_r (by omega) (by omega)) ?_) | (refine ey_ii (by first | rfl | exact decide_eq_true (by omega) | exact cMul_l (by omega) (by omega) | exact cMul_r (by omega) (by omega)) ?_) | (refine ey_mul (by first | rfl | exact cMul_l (by omega) (by omega) | exact cMul_r (by omega) (by omega)) ?_) | (refine ew_neg ?_) | (refine ey_neg ?_) | (refine ew_iB ?_) | (refine ey_iB ?_) | (refine ⟨_, by rfl, ?_⟩) | (refine ⟨(show List.length _ = _ from rfl), ?_⟩) | (simp only [wip, resto, List.getElem?_cons_zero, List.getElem?_cons_succ, Option.join_some, Option.join_none, Int.reduceToNat, seqK_nx, seqK_rt, turnK_nx, turnK_ct, maxI_eq, minI_eq, izs_len, fz_tup, fz_lst, fz_dic, fzs_eds, fzs_izs, fzs_nil, fzs_cons, takeArgs, refPos, refsOf, putBack, List.set_cons_zero, List.set_cons_succ, fz_int, fz_bl, fz_non])))
      refine ⟨_, _, _, by rfl, store_izs q0 (by omega), ?_⟩
      (repeat (first | (refine Q.seq ?_) | (refine Q.asg ?_) | (refine Q.ret ?_) | (refine Q.drop ?_) | (refine Q.nxt ?_) | (refine Q.setB rfl ?_) | (refine Q.val (by rfl) (by first | rfl | (simp only [cln_tup, cln_lst, clns_cons, clns_nil, clns_izs, clns_eds, cln_edge, cln_int, Bool.and_self, Bool.not_false, Bool.and_true, Bool.true_and]; first | done | fail)) ?_) | (refine Q.valv (by rfl) ?_) | (refine Q.takeI (by rfl) ?_) | (refine Q.consA ?_) | (refine Q.consO ?_) | (refine Q.nilO ?_) | (refine Q.nilP ?_) | (refine Q.tupM ?_) | (refine Q.lstM ?_) | (refine Q.dicE ?_) | (refine Q.call ?_) | (refine Q.refA (by rfl) ?_) | (refine Q.subI (by rfl) ?_) | (refine Q.valA ?_) | (refine Q.nilA ?_) | (refine Q.op2 ?_) | (refine Q.un ?_) | (refine Q.callA ?_) | (refine Q.callS ?_) | (refine Q.forS ?_) | (refine Q.iter ?_) | (refine Q.rng1 ?_) | (refine Q.rng2 ?_) | (refine Q.gtup rfl ?_) | (refine Q.gcons ?_) | (refine Q.gnil ?_) | (refine Q.put0 (by rfl) ?_) | (refine retK_rt (by rfl) ?_) | (refine ⟨Nat.le_of_ble_eq_true rfl, ?_⟩) | (refine ⟨_, rfl, big_ok (by omega) (by omega), ?_⟩) | (refine ⟨_, _, rfl, Bool.and_eq_true_iff.mpr ⟨big_ok (by omega) (by omega), big_ok (by omega) (by omega)⟩, ?_⟩) | (refine Q.truP ?_) | (refine Q.mbl ?_) | (refine Q.mtru ?_) | (refine Q.mnot ?_) | (refine Q.mor ?_) | (refine Q.mand ?_) | (refine ⟨by rfl, _, _, by rfl, ?_⟩) | (refine ⟨_, _, _, by rfl, by rfl, ?_⟩) | (refine ew_add ?_) | (refine ey_add ?_) | (refine ew_ii (by first | rfl | exact decide_eq_true (by omega) | exact cMul_l (by omega) (by omega) | exact cMul_r (by omega) (by omega)) ?_) | (refine ew_mul (by first | rfl | exact cMul_l (by omega) (by omega) | exact cMul_r (by omega) (by omega)) ?_) | (refine ey_ii (by first | rfl | exact decide_eq_true (by omega) | exact cMul_l (by omega) (by omega) | exact cMul_r (by omega) (by omega)) ?_) | (refine ey_mul (by first | rfl | exact cMul_l (by omega) (by omega) | exact cMul_r (by omega) (by omega)) ?_) | (refine ew_neg ?_) | (refine ey_neg ?_) | (refine ew_iB ?_) | (refine ey_iB ?_) | (refine ⟨_, by rfl, ?_⟩) | (refine ⟨(show List.length _ = _ from rfl), ?_⟩) | (simp only [wip, resto, List.getElem?_cons_zero, List.getElem?_cons_succ, Option.join_some, Option.join_none, Int.reduceToNat, seqK_nx, seqK_rt, turnK_nx, turnK_ct, maxI_eq, minI_eq, izs_len, fz_tup, fz_lst, fz_dic, fzs_eds, fzs_izs, fzs_nil, fzs_cons, takeArgs, refPos, refsOf, putBack, List.set_cons_zero, List.set_cons_succ, fz_int, fz_bl, fz_non])))
      exact hold ⟨trivial, _, _, rfl, h.mono (by omega), by rw [List.length_set]; exact hf⟩
    · (repeat (first | (refine Q.seq ?_) | (refine Q.asg ?_) | (refine Q.ret ?_) | (refine Q.drop ?_) | (refine Q.nxt ?_) | (refine Q.setB rfl ?_) | (refine Q.val (by rfl) (by first | rfl | (simp only [cln_tup, cln_lst, clns_cons, clns_nil, clns_izs, clns_eds, cln_edge, cln_int, Bool.and_self, Bool.not_false, Bool.and_true, Bool.true_and]; first | done | fail)) ?_) | (refine Q.valv (by rfl) ?_) | (refine Q.takeI (by rfl) ?_) | (refine Q.consA ?_) | (refine Q.consO ?_) | (refine Q.nilO ?_) | (refine Q.nilP ?_) | (refine Q.tupM ?_) | (refine Q.lstM ?_) | (refine Q.dicE ?_) | (refine Q.call ?_) | (refine Q.refA (by rfl) ?_) | (refine Q.subI (by rfl) ?_) | (refine Q.valA ?_) | (refine Q.nilA ?_) | (refine Q.op2 ?_) | (refine Q.un ?_) | (refine Q.callA ?_) | (refine Q.callS ?_) | (refine Q.forS ?_) | (refine Q.iter ?_) | (refine Q.rng1 ?_) | (refine Q.rng2 ?_) | (refine Q.gtup rfl ?_) | (refine Q.gcons ?_) | (refine Q.gnil ?_) | (refine Q.put0 (by rfl) ?_) | (refine retK_rt (by rfl) ?_) | (refine ⟨Nat.le_of_ble_eq_true rfl, ?_⟩) | (refine ⟨_, rfl, big_ok (by omega) (by omega), ?_⟩) | (refine ⟨_, _, rfl, Bool.and_eq_true_iff.mpr ⟨big_ok (by omega) (by omega), big_ok (by omega) (by omega)⟩, ?_⟩) | (refine Q.truP ?_) | (refine Q.mbl ?_) | (refine Q.mtru ?_) | (refine Q.mnot ?_) | (refine Q.mor ?_) | (refine Q.mand ?_) | (refine ⟨by rfl, _, _, by rfl, ?_⟩) | (refine ⟨_, _, _, by rfl, by rfl, ?_⟩) | (refine ew_add ?_) | (refine ey_add ?_) | (refine ew_ii (by first | rfl | exact decide_eq_true (by omega) | exact cMul_l (by omega) (by omega) | exact cMul_r (by omega) (by omega)) ?_) | (refine ew_mul (by first | rfl | exact cMul_l (by omega) (by omega) | exact cMul_r (by omega) (by omega)) ?_) | (refine ey_ii (by first | rfl | exact decide_eq_true (by omega) | exact cMul_l (by omega) (by omega) | exact cMul_r (by omega) (by omega)) ?_) | (refine ey_mul (by first | rfl | exact cMul_l (by omega) (by omega) | exact cMul_r (by omega) (by omega)) ?_) | (refine ew_neg ?_) | (refine ey_neg ?_) | (refine ew_iB ?_) | (refine ey_iB ?_) | (refine ⟨_, by rfl, ?_⟩) | (refine ⟨(show List.length _ = _ from rfl), ?_⟩) | (simp only [wip, resto, List.getElem?_cons_zero, List.getElem?_cons_succ, Option.join_some, Option.join_none, Int.reduceToNat, seqK_nx, seqK_rt, turnK_nx, turnK_ct, maxI_eq, minI_eq, izs_len, fz_tup, fz_lst, fz_dic, fzs_eds, fzs_izs, fzs_nil, fzs_cons, takeArgs, refPos, refsOf, putBack, List.set_cons_zero, List.set_cons_succ, fz_int, fz_bl, fz_non])))
      exact hold ⟨trivial, _, fs, rfl, h.mono (by omega), hf⟩
  rintro _ _ ⟨rfl, p, fs, rfl, h, hf⟩
  (repeat (first | (refine Q.seq ?_) | (refine Q.asg ?_) | (refine Q.ret ?_) | (refine Q.drop ?_) | (refine Q.nxt ?_) | (refine Q.setB rfl ?_) | (refine Q.val (by rfl) (by first | rfl | (simp only [cln_tup, cln_lst, clns_cons, clns_nil, clns_izs, clns_eds, cln_edge, cln_int, Bool.and_self, Bool.not_false, Bool.and_true, Bool.true_and]; first | done | fail)) ?_) | (refine Q.valv (by rfl) ?_) | (refine Q.takeI (by rfl) ?_) | (refine Q.consA ?_) | (refine Q.consO ?_) | (refine Q.nilO ?_) | (refine Q.nilP ?_) | (refine Q.tupM ?_) | (refine Q.lstM ?_) | (refine Q.dicE ?_) | (refine Q.call ?_) | (refine Q.refA (by rfl) ?_) | (refine Q.subI (by rfl) ?_) | (refine Q.valA ?_) | (refine Q.nilA ?_) | (refine Q.op2 ?_) | (refine Q.un ?_) | (refine Q.callA ?_) | (refine Q.callS ?_) | (refine Q.forS ?_) | (refine Q.iter ?_) | (refine Q.rng1 ?_) | (refine Q.rng2 ?_) | (refine Q.gtup rfl ?_) | (refine Q.gcons ?_) | (refine Q.gnil ?_) | (refine Q.put0 (by rfl) ?_) | (refine retK_rt (by rfl) ?_) | (refine ⟨Nat.le_of_ble_eq_true rfl, ?_⟩) | (refine ⟨_, rfl, big_ok (by omega) (by omega), ?_⟩) | (refine ⟨_, _, rfl, Bool.and_eq_true_iff.mpr ⟨big_ok (by omega) (by omega), big_ok (by omega) (by omega)⟩, ?_⟩) | (refine Q.truP ?_) | (refine Q.mbl ?_) | (refine Q.mtru ?_) | (refine Q.mnot ?_) | (refine Q.mor ?_) | (refine Q.mand ?_) | (refine ⟨by rfl, _, _, by rfl, ?_⟩) | (refine ⟨_, _, _, by rfl, by rfl, ?_⟩) | (refine ew_add ?_) | (refine ey_add ?_) | (refine ew_ii (by first | rfl | exact decide_eq_true (by omega) | exact cMul_l (by omega) (by omega) | exact cMul_r (by omega) (by omega)) ?_) | (refine ew_mul (by first | rfl | exact cMul_l (by omega) (by omega) | exact cMul_r (by omega) (by omega)) ?_) | (refine ey_ii (by first | rfl | exact decide_eq_true (by omega) | exact cMul_l (by omega) (by omega) | exact cMul_r (by omega) (by omega)) ?_) | (refine ey_mul (by first | rfl | exact cMul_l (by omega) (by omega) | exact cMul_r (by omega) (by omega)) ?_) | (refine ew_neg ?_) | (refine ey_neg ?_) | (refine ew_iB ?_) | (refine ey_iB ?_) | (refine ⟨_, by rfl, ?_⟩) | (refine ⟨(show List.length _ = _ from rfl), ?_⟩) | (simp only [wip, resto, List.getElem?_cons_zero, List.getElem?_cons_succ, Option.join_some, Option.join_none, Int.reduceToNat, seqK_nx, seqK_rt, turnK_nx, turnK_ct, maxI_eq, minI_eq, izs_len, fz_tup, fz_lst, fz_dic, fzs_eds, fzs_izs, fzs_nil, fzs_cons, takeArgs, refPos, refsOf, putBack, List.set_cons_zero, List.set_cons_succ, fz_int, fz_bl, fz_non])))
  refine cutH (fun f Γ1 => f = .nx ∧ ∃ (fs : List Int), Γ1 = [some p, some (.int kind), some (webD n es), some (.int k), some (.lst false (izs hs)), some (.lst true (izs fs)), some (.int q), some (.lst false (izs l))] ∧ (fs.length : Int) ≤ n) ?_ ?_
  · refine Q.ifP (c := decide (kind = 4)) (by (simp (disch := omega) only [Int.reduceToNat, atI_z, atI_1, atI_2, List.set_cons_zero, List.set_cons_succ, pOp2, pVar, pCst, pCall, pCons, pNil, pBl, pTru, pNotB, pAndB, pOrB, pAnd, pOr, pNot, pChain, pIf, pUn, pSnoc, iiI, iiB, subX, lenX, blX, truD, seqD, negX, intX, List.getElem?_cons_zero, List.getElem?_cons_succ, List.nil_append, List.cons_append, Int.reduceLT, Int.reduceLE, and_self, and_true, true_and, Bool.and_true, Bool.true_and, decide_eq_true_eq, if_true, if_pos, decide_true, Option.map_some, Bool.false_eq_true, if_false, maxX, minX, eqX_int]) <;> rfl) (fun hc => ?_) (fun hc => ?_)
    · (repeat (first | (refine Q.seq ?_) | (refine Q.asg ?_) | (refine Q.ret ?_) | (refine Q.drop ?_) | (refine Q.nxt ?_) | (refine Q.setB rfl ?_) | (refine Q.val (by rfl) (by first | rfl | (simp only [cln_tup, cln_lst, clns_cons, clns_nil, clns_izs, clns_eds, cln_edge, cln_int, Bool.and_self, Bool.not_false, Bool.and_true, Bool.true_and]; first | done | fail)) ?_) | (refine Q.valv (by rfl) ?_) | (refine Q.takeI (by rfl) ?_) | (refine Q.consA ?_) | (refine Q.consO ?_) | (refine Q.nilO ?_) | (refine Q.nilP ?_) | (refine Q.tupM ?_) | (refine Q.lstM ?_) | (refine Q.dicE ?_) | (refine Q.call ?_) | (refine Q.refA (by rfl) ?_) | (refine Q.subI (by rfl) ?_) | (refine Q.valA ?_) | (refine Q.nilA ?_) | (refine Q.op2 ?_) | (refine Q.un ?_) | (refine Q.callA ?_) | (refine Q.callS ?_) | (refine Q.forS ?_) | (refine Q.iter ?_) | (refine Q.rng1 ?_) | (refine Q.rng2 ?_) | (refine Q.gtup rfl ?_) | (refine Q.gcons ?_) | (refine Q.gnil ?_) | (refine Q.put0 (by rfl) ?_) | (refine retK_rt (by rfl) ?_) | (refine ⟨Nat.le_of_ble_eq_true rfl, ?_⟩) | (refine ⟨_, rfl, big_ok (by omega) (by omega), ?_⟩) | (refine ⟨_, _, rfl, Bool.and_eq_true_iff.mpr ⟨big_ok (by omega) (by omega), big_ok (by omega) (by omega)⟩, ?_⟩) | (refine Q.truP ?_) | (refine Q.mbl ?_) | (refine Q.mtru ?_) | (refine Q.mnot ?_) | (refine Q.mor ?_) | (refine Q.mand ?_) | (refine ⟨by rfl, _, _, by rfl, ?_⟩) | (refine ⟨_, _, _, by rfl, by rfl, ?_⟩) | (refine ew_add ?_) | (refine ey_add ?_) | (refine ew_ii (by first | rfl | exact decide_eq_true (by omega) | exact cMul_l (by omega) (by omega) | exact cMul_r (by omega) (by omega)) ?_) | (refine ew_mul (by first | rfl | exact cMul_l (by omega) (by omega) | exact cMul_r (by omega) (by omega)) ?_) | (refine ey_ii (by first | rfl | exact decide_eq_true (by omega) | exact cMul_l (by omega) (by omega) | exact cMul_r (by omega) (by omega)) ?_) | (refine ey_mul (by first | rfl | exact cMul_l (by omega) (by omega) | exact cMul_r (by omega) (by omega)) ?_) | (refine ew_neg ?_) | (refine ey_neg ?_) | (refine ew_iB ?_) | (refine ey_iB ?_) | (refine ⟨_, by rfl, ?_⟩) | (refine ⟨(show List.length _ = _ from rfl), ?_⟩) | (simp only [wip, resto, List.getElem?_cons_zero, List.getElem?_cons_succ, Option.join_some, Option.join_none, Int.reduceToNat, seqK_nx, seqK_rt, turnK_nx, turnK_ct, maxI_eq, minI_eq, izs_len, fz_tup, fz_lst, fz_dic, fzs_eds, fzs_izs, fzs_nil, fzs_cons, takeArgs, refPos, refsOf, putBack, List.set_cons_zero, List.set_cons_succ, fz_int, fz_bl, fz_non])))
      refine Q.meth0 (by rfl) (by rfl) ?_
      (repeat (first | (refine Q.seq ?_) | (refine Q.asg ?_) | (refine Q.ret ?_) | (refine Q.drop ?_) | (refine Q.nxt ?_) | (refine Q.setB rfl ?_) | (refine Q.val (by rfl) (by first | rfl | (simp only [cln_tup, cln_lst, clns_cons, clns_nil, clns_izs, clns_eds, cln_edge, cln_int, Bool.and_self, Bool.not_false, Bool.and_true, Bool.true_and]; first | done | fail)) ?_) | (refine Q.valv (by rfl) ?_) | (refine Q.takeI (by rfl) ?_) | (refine Q.consA ?_) | (refine Q.consO ?_) | (refine Q.nilO ?_) | (refine Q.nilP ?_) | (refine Q.tupM ?_) | (refine Q.lstM ?_) | (refine Q.dicE ?_) | (refine Q.call ?_) | (refine Q.refA (by rfl) ?_) | (refine Q.subI (by rfl) ?_) | (refine Q.valA ?_) | (refine Q.nilA ?_) | (refine Q.op2 ?_) | (refine Q.un ?_) | (refine Q.callA ?_) | (refine Q.callS ?_) | (refine Q.forS ?_) | (refine Q.iter ?_) | (refine Q.rng1 ?_) | (refine Q.rng2 ?_) | (refine Q.gtup rfl ?_) | (refine Q.gcons ?_) | (refine Q.gnil ?_) | (refine Q.put0 (by rfl) ?_) | (refine retK_rt (by rfl) ?_) | (refine ⟨Nat.le_of_ble_eq_true rfl, ?_⟩) | (refine ⟨_, rfl, big_ok (by omega) (by omega), ?_⟩) | (refine ⟨_, _, rfl, Bool.and_eq_true_iff.mpr ⟨big_ok (by omega) (by omega), big_ok (by omega) (by omega)⟩, ?_⟩) | (refine Q.truP ?_) | (refine Q.mbl ?_) | (refine Q.mtru ?_) | (refine Q.mnot ?_) | (refine Q.mor ?_) | (refine Q.mand ?_) | (refine ⟨by rfl, _, _, by rfl, ?_⟩) | (refine ⟨_, _, _, by rfl, by rfl, ?_⟩) | (refine ew_add ?_) | (refine ey_add ?_) | (refine ew_ii (by first | rfl | exact decide_eq_true (by omega) | exact cMul_l (by omega) (by omega) | exact cMul_r (by omega) (by omega)) ?_) | (refine ew_mul (by first | rfl | exact cMul_l (by omega) (by omega) | exact cMul_r (by omega) (by omega)) ?_) | (refine ey_ii (by first | rfl | exact decide_eq_true (by omega) | exact cMul_l (by omega) (by omega) | exact cMul_r (by omega) (by omega)) ?_) | (refine ey_mul (by first | rfl | exact cMul_l (by omega) (by omega) | exact cMul_r (by omega) (by omega)) ?_) | (refine ew_neg ?_) | (refine ey_neg ?_) | (refine ew_iB ?_) | (refine ey_iB ?_) | (refine ⟨_, by rfl, ?_⟩) | (refine ⟨(show List.length _ = _ from rfl), ?_⟩) | (simp only [wip, resto, List.getElem?_cons_zero, List.getElem?_cons_succ, Option.join_some, Option.join_none, Int.reduceToNat, seqK_nx, seqK_rt, turnK_nx, turnK_ct, maxI_eq, minI_eq, izs_len, fz_tup, fz_lst, fz_dic, fzs_eds, fzs_izs, fzs_nil, fzs_cons, takeArgs, refPos, refsOf, putBack, List.set_cons_zero, List.set_cons_succ, fz_int, fz_bl, fz_non])))
      obtain ⟨x, hx⟩ := pop_izs (l := fs) q0 (by omega) (by omega)
      refine ⟨_, _, _, by rfl, hx, ?_⟩
      (repeat (first | (refine Q.seq ?_) | (refine Q.asg ?_) | (refine Q.ret ?_) | (refine Q.drop ?_) | (refine Q.nxt ?_) | (refine Q.setB rfl ?_) | (refine Q.val (by rfl) (by first | rfl | (simp only [cln_tup, cln_lst, clns_cons, clns_nil, clns_izs, clns_eds, cln_edge, cln_int, Bool.and_self, Bool.not_false, Bool.and_true, Bool.true_and]; first | done | fail)) ?_) | (refine Q.valv (by rfl) ?_) | (refine Q.takeI (by rfl) ?_) | (refine Q.consA ?_) | (refine Q.consO ?_) | (refine Q.nilO ?_) | (refine Q.nilP ?_) | (refine Q.tupM ?_) | (refine Q.lstM ?_) | (refine Q.dicE ?_) | (refine Q.call ?_) | (refine Q.refA (by rfl) ?_) | (refine Q.subI (by rfl) ?_) | (refine Q.valA ?_) | (refine Q.nilA ?_) | (refine Q.op2 ?_) | (refine Q.un ?_) | (refine Q.callA ?_) | (refine Q.callS ?_) | (refine Q.forS ?_) | (refine Q.iter ?_) | (refine Q.rng1 ?_) | (refine Q.rng2 ?_) | (refine Q.gtup rfl ?_) | (refine Q.gcons ?_) | (refine Q.gnil ?_) | (refine Q.put0 (by rfl) ?_) | (refine retK_rt (by rfl) ?_) | (refine ⟨Nat.le_of_ble_eq_true rfl, ?_⟩) | (refine ⟨_, rfl, big_ok (by omega) (by omega), ?_⟩) | (refine ⟨_, _, rfl, Bool.and_eq_true_iff.mpr ⟨big_ok (by omega) (by omega), big_ok (by omega) (by omega)⟩, ?_⟩) | (refine Q.truP ?_) | (refine Q.mbl ?_) | (refine Q.mtru ?_) | (refine Q.mnot ?_) | (refine Q.mor ?_) | (refine Q.mand ?_) | (refine ⟨by rfl, _, _, by rfl, ?_⟩) | (refine ⟨_, _, _, by rfl, by rfl, ?_⟩) | (refine ew_add ?_) | (refine ey_add ?_) | (refine ew_ii (by first | rfl | exact decide_eq_true (by omega) | exact cMul_l (by omega) (by omega) | exact cMul_r (by omega) (by omega)) ?_) | (refine ew_mul (by first | rfl | exact cMul_l (by omega) (by omega) | exact cMul_r (by omega) (by omega)) ?_) | (refine ey_ii (by first | rfl | exact decide_eq_true (by omega) | exact cMul_l (by omega) (by omega) | exact cMul_r (by omega) (by omega)) ?_) | (refine ey_mul (by first | rfl | exact cMul_l (by omega) (by omega) | exact cMul_r (by omega) (by omega)) ?_) | (refine ew_neg ?_) | (refine ey_neg ?_) | (refine ew_iB ?_) | (refine ey_iB ?_) | (refine ⟨_, by rfl, ?_⟩) | (refine ⟨(show List.length _ = _ from rfl), ?_⟩) | (simp only [wip, resto, List.getElem?_cons_zero, List.getElem?_cons_succ, Option.join_some, Option.join_none, Int.reduceToNat, seqK_nx, seqK_rt, turnK_nx, turnK_ct, maxI_eq, minI_eq, izs_len, fz_tup, fz_lst, fz_dic, fzs_eds, fzs_izs, fzs_nil, fzs_cons, takeArgs, refPos, refsOf, putBack, List.set_cons_zero, List.set_cons_succ, fz_int, fz_bl, fz_non])))
      exact hold ⟨trivial, _, rfl, by have := List.length_eraseIdx_le fs q.toNat; omega⟩
    · (repeat (first | (refine Q.seq ?_) | (refine Q.asg ?_) | (refine Q.ret ?_) | (refine Q.drop ?_) | (refine Q.nxt ?_) | (refine Q.setB rfl ?_) | (refine Q.val (by rfl) (by first | rfl | (simp only [cln_tup, cln_lst, clns_cons, clns_nil, clns_izs, clns_eds, cln_edge, cln_int, Bool.and_self, Bool.not_false, Bool.and_true, Bool.true_and]; first | done | fail)) ?_) | (refine Q.valv (by rfl) ?_) | (refine Q.takeI (by rfl) ?_) | (refine Q.consA ?_) | (refine Q.consO ?_) | (refine Q.nilO ?_) | (refine Q.nilP ?_) | (refine Q.tupM ?_) | (refine Q.lstM ?_) | (refine Q.dicE ?_) | (refine Q.call ?_) | (refine Q.refA (by rfl) ?_) | (refine Q.subI (by rfl) ?_) | (refine Q.valA ?_) | (refine Q.nilA ?_) | (refine Q.op2 ?_) | (refine Q.un ?_) | (refine Q.callA ?_) | (refine Q.callS ?_) | (refine Q.forS ?_) | (refine Q.iter ?_) | (refine Q.rng1 ?_) | (refine Q.rng2 ?_) | (refine Q.gtup rfl ?_) | (refine Q.gcons ?_) | (refine Q.gnil ?_) | (refine Q.put0 (by rfl) ?_) | (refine retK_rt (by rfl) ?_) | (refine ⟨Nat.le_of_ble_eq_true rfl, ?_⟩) | (refine ⟨_, rfl, big_ok (by omega) (by omega), ?_⟩) | (refine ⟨_, _, rfl, Bool.and_eq_true_iff.mpr ⟨big_ok (by omega) (by omega), big_ok (by omega) (by omega)⟩, ?_⟩) | (refine Q.truP ?_) | (refine Q.mbl ?_) | (refine Q.mtru ?_) | (refine Q.mnot ?_) | (refine Q.mor ?_) | (refine Q.mand ?_) | (refine ⟨by rfl, _, _, by rfl, ?_⟩) | (refine ⟨_, _, _, by rfl, by rfl, ?_⟩) | (refine ew_add ?_) | (refine ey_add ?_) | (refine ew_ii (by first | rfl | exact decide_eq_true (by omega) | exact cMul_l (by omega) (by omega) | exact cMul_r (by omega) (by omega)) ?_) | (refine ew_mul (by first | rfl | exact cMul_l (by omega) (by omega) | exact cMul_r (by omega) (by omega)) ?_) | (refine ey_ii (by first | rfl | exact decide_eq_true (by omega) | exact cMul_l (by omega) (by omega) | exact cMul_r (by omega) (by omega)) ?_) | (refine ey_mul (by first | rfl | exact cMul_l (by omega) (by omega) | exact cMul_r (by omega) (by omega)) ?_) | (refine ew_neg ?_) | (refine ey_neg ?_) | (refine ew_iB ?_) | (refine ey_iB ?_) | (refine ⟨_, by rfl, ?_⟩) | (refine ⟨(show List.length _ = _ from rfl), ?_⟩) | (simp only [wip, resto, List.getElem?_cons_zero, List.getElem?_cons_succ, Option.join_some, Option.join_none, Int.reduceToNat, seqK_nx, seqK_rt, turnK_nx, turnK_ct, maxI_eq, minI_eq, izs_len, fz_tup, fz_lst, fz_dic, fzs_eds, fzs_izs, fzs_nil, fzs_cons, takeArgs, refPos, refsOf, putBack, List.set_cons_zero, List.set_cons_succ, fz_int, fz_bl, fz_non])))
      exact hold ⟨trivial, fs, rfl, by omega⟩
  rintro _ _ ⟨rfl, fs, rfl, hf⟩
  (repeat (first | (refine Q.seq ?_) | (refine Q.asg ?_) | (refine Q.ret ?_) | (refine Q.drop ?_) | (refine Q.nxt ?_) | (refine Q.setB rfl ?_) | (refine Q.val (by rfl) (by first | rfl | (simp only [cln_tup, cln_lst, clns_cons, clns_nil, clns_izs, clns_eds, cln_edge, cln_int, Bool.and_self, Bool.not_false, Bool.and_true, Bool.true_and]; first | done | fail)) ?_) | (refine Q.valv (by rfl) ?_) | (refine Q.takeI (by rfl) ?_) | (refine Q.consA ?_) | (refine Q.consO ?_) | (refine Q.nilO ?_) | (refine Q.nilP ?_) | (refine Q.tupM ?_) | (refine Q.lstM ?_) | (refine Q.dicE ?_) | (refine Q.call ?_) | (refine Q.refA (by rfl) ?_) | (refine Q.subI (by rfl) ?_) | (refine Q.valA ?_) | (refine Q.nilA ?_) | (refine Q.op2 ?_) | (refine Q.un ?_) | (refine Q.callA ?_) | (refine Q.callS ?_) | (refine Q.forS ?_) | (refine Q.iter ?_) | (refine Q.rng1 ?_) | (refine Q.rng2 ?_) | (refine Q.gtup rfl ?_) | (refine Q.gcons ?_) | (refine Q.gnil ?_) | (refine Q.put0 (by rfl) ?_) | (refine retK_rt (by rfl) ?_) | (refine ⟨Nat.le_of_ble_eq_true rfl, ?_⟩) | (refine ⟨_, rfl, big_ok (by omega) (by omega), ?_⟩) | (refine ⟨_, _, rfl, Bool.and_eq_true_iff.mpr ⟨big_ok (by omega) (by omega), big_ok (by omega) (by omega)⟩, ?_⟩) | (refine Q.truP ?_) | (refine Q.mbl ?_) | (refine Q.mtru ?_) | (refine Q.mnot ?_) | (refine Q.mor ?_) | (refine Q.mand ?_) | (refine ⟨by rfl, _, _, by rfl, ?_⟩) | (refine ⟨_, _, _, by rfl, by rfl, ?_⟩) | (refine ew_add ?_) | (refine ey_add ?_) | (refine ew_ii (by first | rfl | exact decide_eq_true (by omega) | exact cMul_l (by omega) (by omega) | exact cMul_r (by omega) (by omega)) ?_) | (refine ew_mul (by first | rfl | exact cMul_l (by omega) (by omega) | exact cMul_r (by omega) (by omega)) ?_) | (refine ey_ii (by first | rfl | exact decide_eq_true (by omega) | exact cMul_l (by omega) (by omega) | exact cMul_r (by omega) (by omega)) ?_) | (refine ey_mul (by first | rfl | exact cMul_l (by omega) (by omega) | exact cMul_r (by omega) (by omega)) ?_) | (refine ew_neg ?_) | (refine ey_neg ?_) | (refine ew_iB ?_) | (refine ey_iB ?_) | (refine ⟨_, by rfl, ?_⟩) | (refine ⟨(show List.length _ = _ from rfl), ?_⟩) | (simp only [wip, resto, List.getElem?_cons_zero, List.getElem?_cons_succ, Option.join_some, Option.join_none, Int.reduceToNat, seqK_nx, seqK_rt, turnK_nx, turnK_ct, maxI_eq, minI_eq, izs_len, fz_tup, fz_lst, fz_dic, fzs_eds, fzs_izs, fzs_nil, fzs_cons, takeArgs, refPos, refsOf, putBack, List.set_cons_zero, List.set_cons_succ, fz_int, fz_bl, fz_non])))
  refine cutH (fun f Γ1 => f = .nx ∧ ∃ (p : D) (fs : List Int), Γ1 = [some p, some (.int kind), some (webD n es), some (.int k), some (.lst false (izs hs)), some (.lst true (izs fs)), some (.int q), some (.lst false (izs l))] ∧ Pen (m + 5) p ∧ (fs.length : Int) ≤ n + 1) ?_ ?_
  · refine Q.ifP (c := decide (kind = 5)) (by (simp (disch := omega) only [Int.reduceToNat, atI_z, atI_1, atI_2, List.set_cons_zero, List.set_cons_succ, pOp2, pVar, pCst, pCall, pCons, pNil, pBl, pTru, pNotB, pAndB, pOrB, pAnd, pOr, pNot, pChain, pIf, pUn, pSnoc, iiI, iiB, subX, lenX, blX, truD, seqD, negX, intX, List.getElem?_cons_zero, List.getElem?_cons_succ, List.nil_append, List.cons_append, Int.reduceLT, Int.reduceLE, and_self, and_true, true_and, Bool.and_true, Bool.true_and, decide_eq_true_eq, if_true, if_pos, decide_true, Option.map_some, Bool.false_eq_true, if_false, maxX, minX, eqX_int]) <;> rfl) (fun hc => ?_) (fun hc => ?_)
    · (repeat (first | (refine Q.seq ?_) | (refine Q.asg ?_) | (refine Q.ret ?_) | (refine Q.drop ?_) | (refine Q.nxt ?_) | (refine Q.setB rfl ?_) | (refine Q.val (by rfl) (by first | rfl | (simp only [cln_tup, cln_lst, clns_cons, clns_nil, clns_izs, clns_eds, cln_edge, cln_int, Bool.and_self, Bool.not_false, Bool.and_true, Bool.true_and]; first | done | fail)) ?_) | (refine Q.valv (by rfl) ?_) | (refine Q.takeI (by rfl) ?_) | (refine Q.consA ?_) | (refine Q.consO ?_) | (refine Q.nilO ?_) | (refine Q.nilP ?_) | (refine Q.tupM ?_) | (refine Q.lstM ?_) | (refine Q.dicE ?_) | (refine Q.call ?_) | (refine Q.refA (by rfl) ?_) | (refine Q.subI (by rfl) ?_) | (refine Q.valA ?_) | (refine Q.nilA ?_) | (refine Q.op2 ?_) | (refine Q.un ?_) | (refine Q.callA ?_) | (refine Q.callS ?_) | (refine Q.forS ?_) | (refine Q.iter ?_) | (refine Q.rng1 ?_) | (refine Q.rng2 ?_) | (refine Q.gtup rfl ?_) | (refine Q.gcons ?_) | (refine Q.gnil ?_) | (refine Q.put0 (by rfl) ?_) | (refine retK_rt (by rfl) ?_) | (refine ⟨Nat.le_of_ble_eq_true rfl, ?_⟩) | (refine ⟨_, rfl, big_ok (by omega) (by omega), ?_⟩) | (refine ⟨_, _, rfl, Bool.and_eq_true_iff.mpr ⟨big_ok (by omega) (by omega), big_ok (by omega) (by omega)⟩, ?_⟩) | (refine Q.truP ?_) | (refine Q.mbl ?_) | (refine Q.mtru ?_) | (refine Q.mnot ?_) | (refine Q.mor ?_) | (refine Q.mand ?_) | (refine ⟨by rfl, _, _, by rfl, ?_⟩) | (refine ⟨_, _, _, by rfl, by rfl, ?_⟩) | (refine ew_add ?_) | (refine ey_add ?_) | (refine ew_ii (by first | rfl | exact decide_eq_true (by omega) | exact cMul_l (by omega) (by omega) | exact cMul_r (by omega) (by omega)) ?_) | (refine ew_mul (by first | rfl | exact cMul_l (by omega) (by omega) | exact cMul_r (by omega) (by omega)) ?_) | (refine ey_ii (by first | rfl | exact decide_eq_true (by omega) | exact cMul_l (by omega) (by omega) | exact cMul_r (by omega) (by omega)) ?_) | (refine ey_mul (by first | rfl | exact cMul_l (by omega) (by omega) | exact cMul_r (by omega) (by omega)) ?_) | (refine ew_neg ?_) | (refine ey_neg ?_) | (refine ew_iB ?_) | (refine ey_iB ?_) | (refine ⟨_, by rfl, ?_⟩) | (refine ⟨(show List.length _ = _ from rfl), ?_⟩) | (simp only [wip, resto, List.getElem?_cons_zero, List.getElem?_cons_succ, Option.join_some, Option.join_none, Int.reduceToNat, seqK_nx, seqK_rt, turnK_nx, turnK_ct, maxI_eq, minI_eq, izs_len, fz_tup, fz_lst, fz_dic, fzs_eds, fzs_izs, fzs_nil, fzs_cons, takeArgs, refPos, refsOf, putBack, List.set_cons_zero, List.set_cons_succ, fz_int, fz_bl, fz_non])))
      refine Q.meth0 (by rfl) (by rfl) ?_
      (repeat (first | (refine Q.seq ?_) | (refine Q.asg ?_) | (refine Q.ret ?_) | (refine Q.drop ?_) | (refine Q.nxt ?_) | (refine Q.setB rfl ?_) | (refine Q.val (by rfl) (by first | rfl | (simp only [cln_tup, cln_lst, clns_cons, clns_nil, clns_izs, clns_eds, cln_edge, cln_int, Bool.and_self, Bool.not_false, Bool.and_true, Bool.true_and]; first | done | fail)) ?_) | (refine Q.valv (by rfl) ?_) | (refine Q.takeI (by rfl) ?_) | (refine Q.consA ?_) | (refine Q.consO ?_) | (refine Q.nilO ?_) | (refine Q.nilP ?_) | (refine Q.tupM ?_) | (refine Q.lstM ?_) | (refine Q.dicE ?_) | (refine Q.call ?_) | (refine Q.refA (by rfl) ?_) | (refine Q.subI (by rfl) ?_) | (refine Q.valA ?_) | (refine Q.nilA ?_) | (refine Q.op2 ?_) | (refine Q.un ?_) | (refine Q.callA ?_) | (refine Q.callS ?_) | (refine Q.forS ?_) | (refine Q.iter ?_) | (refine Q.rng1 ?_) | (refine Q.rng2 ?_) | (refine Q.gtup rfl ?_) | (refine Q.gcons ?_) | (refine Q.gnil ?_) | (refine Q.put0 (by rfl) ?_) | (refine retK_rt (by rfl) ?_) | (refine ⟨Nat.le_of_ble_eq_true rfl, ?_⟩) | (refine ⟨_, rfl, big_ok (by omega) (by omega), ?_⟩) | (refine ⟨_, _, rfl, Bool.and_eq_true_iff.mpr ⟨big_ok (by omega) (by omega), big_ok (by omega) (by omega)⟩, ?_⟩) | (refine Q.truP ?_) | (refine Q.mbl ?_) | (refine Q.mtru ?_) | (refine Q.mnot ?_) | (refine Q.mor ?_) | (refine Q.mand ?_) | (refine ⟨by rfl, _, _, by rfl, ?_⟩) | (refine ⟨_, _, _, by rfl, by rfl, ?_⟩) | (refine ew_add ?_) | (refine ey_add ?_) | (refine ew_ii (by first | rfl | exact decide_eq_true (by omega) | exact cMul_l (by omega) (by omega) | exact cMul_r (by omega) (by omega)) ?_) | (refine ew_mul (by first | rfl | exact cMul_l (by omega) (by omega) | exact cMul_r (by omega) (by omega)) ?_) | (refine ey_ii (by first | rfl | exact decide_eq_true (by omega) | exact cMul_l (by omega) (by omega) | exact cMul_r (by omega) (by omega)) ?_) | (refine ey_mul (by first | rfl | exact cMul_l (by omega) (by omega) | exact cMul_r (by omega) (by omega)) ?_) | (refine ew_neg ?_) | (refine ey_neg ?_) | (refine ew_iB ?_) | (refine ey_iB ?_) | (refine ⟨_, by rfl, ?_⟩) | (refine ⟨(show List.length _ = _ from rfl), ?_⟩) | (simp only [wip, resto, List.getElem?_cons_zero, List.getElem?_cons_succ, Option.join_some, Option.join_none, Int.reduceToNat, seqK_nx, seqK_rt, turnK_nx, turnK_ct, maxI_eq, minI_eq, izs_len, fz_tup, fz_lst, fz_dic, fzs_eds, fzs_izs, fzs_nil, fzs_cons, takeArgs, refPos, refsOf, putBack, List.set_cons_zero, List.set_cons_succ, fz_int, fz_bl, fz_non])))
      (refine (draw_ok (by assumption) (by omega) (by omega) (by omega)).imp ?_; rintro _ _ ⟨y, hd, rfl, y0, y1, rfl, h⟩)
      (repeat (first | (refine Q.seq ?_) | (refine Q.asg ?_) | (refine Q.ret ?_) | (refine Q.drop ?_) | (refine Q.nxt ?_) | (refine Q.setB rfl ?_) | (refine Q.val (by rfl) (by first | rfl | (simp only [cln_tup, cln_lst, clns_cons, clns_nil, clns_izs, clns_eds, cln_edge, cln_int, Bool.and_self, Bool.not_false, Bool.and_true, Bool.true_and]; first | done | fail)) ?_) | (refine Q.valv (by rfl) ?_) | (refine Q.takeI (by rfl) ?_) | (refine Q.consA ?_) | (refine Q.consO ?_) | (refine Q.nilO ?_) | (refine Q.nilP ?_) | (refine Q.tupM ?_) | (refine Q.lstM ?_) | (refine Q.dicE ?_) | (refine Q.call ?_) | (refine Q.refA (by rfl) ?_) | (refine Q.subI (by rfl) ?_) | (refine Q.valA ?_) | (refine Q.nilA ?_) | (refine Q.op2 ?_) | (refine Q.un ?_) | (refine Q.callA ?_) | (refine Q.callS ?_) | (refine Q.forS ?_) | (refine Q.iter ?_) | (refine Q.rng1 ?_) | (refine Q.rng2 ?_) | (refine Q.gtup rfl ?_) | (refine Q.gcons ?_) | (refine Q.gnil ?_) | (refine Q.put0 (by rfl) ?_) | (refine retK_rt (by rfl) ?_) | (refine ⟨Nat.le_of_ble_eq_true rfl, ?_⟩) | (refine ⟨_, rfl, big_ok (by omega) (by omega), ?_⟩) | (refine ⟨_, _, rfl, Bool.and_eq_true_iff.mpr ⟨big_ok (by omega) (by omega), big_ok (by omega) (by omega)⟩, ?_⟩) | (refine Q.truP ?_) | (refine Q.mbl ?_) | (refine Q.mtru ?_) | (refine Q.mnot ?_) | (refine Q.mor ?_) | (refine Q.mand ?_) | (refine ⟨by rfl, _, _, by rfl, ?_⟩) | (refine ⟨_, _, _, by rfl, by rfl, ?_⟩) | (refine ew_add ?_) | (refine ey_add ?_) | (refine ew_ii (by first | rfl | exact decide_eq_true (by omega) | exact cMul_l (by omega) (by omega) | exact cMul_r (by omega) (by omega)) ?_) | (refine ew_mul (by first | rfl | exact cMul_l (by omega) (by omega) | exact cMul_r (by omega) (by omega)) ?_) | (refine ey_ii (by first | rfl | exact decide_eq_true (by omega) | exact cMul_l (by omega) (by omega) | exact cMul_r (by omega) (by omega)) ?_) | (refine ey_mul (by first | rfl | exact cMul_l (by omega) (by omega) | exact cMul_r (by omega) (by omega)) ?_) | (refine ew_neg ?_) | (refine ey_neg ?_) | (refine ew_iB ?_) | (refine ey_iB ?_) | (refine ⟨_, by rfl, ?_⟩) | (refine ⟨(show List.length _ = _ from rfl), ?_⟩) | (simp only [wip, resto, List.getElem?_cons_zero, List.getElem?_cons_succ, Option.join_some, Option.join_none, Int.reduceToNat, seqK_nx, seqK_rt, turnK_nx, turnK_ct, maxI_eq, minI_eq, izs_len, fz_tup, fz_lst, fz_dic, fzs_eds, fzs_izs, fzs_nil, fzs_cons, takeArgs, refPos, refsOf, putBack, List.set_cons_zero, List.set_cons_succ, fz_int, fz_bl, fz_non])))
      refine ⟨_, _, _, by rfl, insert_izs q0 (by omega) (size_ok (by omega)), ?_⟩
      (repeat (first | (refine Q.seq ?_) | (refine Q.asg ?_) | (refine Q.ret ?_) | (refine Q.drop ?_) | (refine Q.nxt ?_) | (refine Q.setB rfl ?_) | (refine Q.val (by rfl) (by first | rfl | (simp only [cln_tup, cln_lst, clns_cons, clns_nil, clns_izs, clns_eds, cln_edge, cln_int, Bool.and_self, Bool.not_false, Bool.and_true, Bool.true_and]; first | done | fail)) ?_) | (refine Q.valv (by rfl) ?_) | (refine Q.takeI (by rfl) ?_) | (refine Q.consA ?_) | (refine Q.consO ?_) | (refine Q.nilO ?_) | (refine Q.nilP ?_) | (refine Q.tupM ?_) | (refine Q.lstM ?_) | (refine Q.dicE ?_) | (refine Q.call ?_) | (refine Q.refA (by rfl) ?_) | (refine Q.subI (by rfl) ?_) | (refine Q.valA ?_) | (refine Q.nilA ?_) | (refine Q.op2 ?_) | (refine Q.un ?_) | (refine Q.callA ?_) | (refine Q.callS ?_) | (refine Q.forS ?_) | (refine Q.iter ?_) | (refine Q.rng1 ?_) | (refine Q.rng2 ?_) | (refine Q.gtup rfl ?_) | (refine Q.gcons ?_) | (refine Q.gnil ?_) | (refine Q.put0 (by rfl) ?_) | (refine retK_rt (by rfl) ?_) | (refine ⟨Nat.le_of_ble_eq_true rfl, ?_⟩) | (refine ⟨_, rfl, big_ok (by omega) (by omega), ?_⟩) | (refine ⟨_, _, rfl, Bool.and_eq_true_iff.mpr ⟨big_ok (by omega) (by omega), big_ok (by omega) (by omega)⟩, ?_⟩) | (refine Q.truP ?_) | (refine Q.mbl ?_) | (refine Q.mtru ?_) | (refine Q.mnot ?_) | (refine Q.mor ?_) | (refine Q.mand ?_) | (refine ⟨by rfl, _, _, by rfl, ?_⟩) | (refine ⟨_, _, _, by rfl, by rfl, ?_⟩) | (refine ew_add ?_) | (refine ey_add ?_) | (refine ew_ii (by first | rfl | exact decide_eq_true (by omega) | exact cMul_l (by omega) (by omega) | exact cMul_r (by omega) (by omega)) ?_) | (refine ew_mul (by first | rfl | exact cMul_l (by omega) (by omega) | exact cMul_r (by omega) (by omega)) ?_) | (refine ey_ii (by first | rfl | exact decide_eq_true (by omega) | exact cMul_l (by omega) (by omega) | exact cMul_r (by omega) (by omega)) ?_) | (refine ey_mul (by first | rfl | exact cMul_l (by omega) (by omega) | exact cMul_r (by omega) (by omega)) ?_) | (refine ew_neg ?_) | (refine ey_neg ?_) | (refine ew_iB ?_) | (refine ey_iB ?_) | (refine ⟨_, by rfl, ?_⟩) | (refine ⟨(show List.length _ = _ from rfl), ?_⟩) | (simp only [wip, resto, List.getElem?_cons_zero, List.getElem?_cons_succ, Option.join_some, Option.join_none, Int.reduceToNat, seqK_nx, seqK_rt, turnK_nx, turnK_ct, maxI_eq, minI_eq, izs_len, fz_tup, fz_lst, fz_dic, fzs_eds, fzs_izs, fzs_nil, fzs_cons, takeArgs, refPos, refsOf, putBack, List.set_cons_zero, List.set_cons_succ, fz_int, fz_bl, fz_non])))
      refine hold ⟨trivial, _, _, rfl, h.mono (by omega), ?_⟩
      have := List.length_take_le q.toNat fs
      have e : (fs.take q.toNat ++ [y] ++ fs.drop q.toNat).length = fs.length + 1 := by
        rw [List.length_append, List.length_append, List.length_take, List.length_drop, List.length_singleton]
        omega
      omega
    · (repeat (first | (refine Q.seq ?_) | (refine Q.asg ?_) | (refine Q.ret ?_) | (refine Q.drop ?_) | (refine Q.nxt ?_) | (refine Q.setB rfl ?_) | (refine Q.val (by rfl) (by first | rfl | (simp only [cln_tup, cln_lst, clns_cons, clns_nil, clns_izs, clns_eds, cln_edge, cln_int, Bool.and_self, Bool.not_false, Bool.and_true, Bool.true_and]; first | done | fail)) ?_) | (refine Q.valv (by rfl) ?_) | (refine Q.takeI (by rfl) ?_) | (refine Q.consA ?_) | (refine Q.consO ?_) | (refine Q.nilO ?_) | (refine Q.nilP ?_) | (refine Q.tupM ?_) | (refine Q.lstM ?_) | (refine Q.dicE ?_) | (refine Q.call ?_) | (refine Q.refA (by rfl) ?_) | (refine Q.subI (by rfl) ?_) | (refine Q.valA ?_) | (refine Q.nilA ?_) | (refine Q.op2 ?_) | (refine Q.un ?_) | (refine Q.callA ?_) | (refine Q.callS ?_) | (refine Q.forS ?_) | (refine Q.iter ?_) | (refine Q.rng1 ?_) | (refine Q.rng2 ?_) | (refine Q.gtup rfl ?_) | (refine Q.gcons ?_) | (refine Q.gnil ?_) | (refine Q.put0 (by rfl) ?_) | (refine retK_rt (by rfl) ?_) | (refine ⟨Nat.le_of_ble_eq_true rfl, ?_⟩) | (refine ⟨_, rfl, big_ok (by omega) (by omega), ?_⟩) | (refine ⟨_, _, rfl, Bool.and_eq_true_iff.mpr ⟨big_ok (by omega) (by omega), big_ok (by omega) (by omega)⟩, ?_⟩) | (refine Q.truP ?_) | (refine Q.mbl ?_) | (refine Q.mtru ?_) | (refine Q.mnot ?_) | (refine Q.mor ?_) | (refine Q.mand ?_) | (refine ⟨by rfl, _, _, by rfl, ?_⟩) | (refine ⟨_, _, _, by rfl, by rfl, ?_⟩) | (refine ew_add ?_) | (refine ey_add ?_) | (refine ew_ii (by first | rfl | exact decide_eq_true (by omega) | exact cMul_l (by omega) (by omega) | exact cMul_r (by omega) (by omega)) ?_) | (refine ew_mul (by first | rfl | exact cMul_l (by omega) (by omega) | exact cMul_r (by omega) (by omega)) ?_) | (refine ey_ii (by first | rfl | exact decide_eq_true (by omega) | exact cMul_l (by omega) (by omega) | exact cMul_r (by omega) (by omega)) ?_) | (refine ey_mul (by first | rfl | exact cMul_l (by omega) (by omega) | exact cMul_r (by omega) (by omega)) ?_) | (refine ew_neg ?_) | (refine ey_neg ?_) | (refine ew_iB ?_) | (refine ey_iB ?_) | (refine ⟨_, by rfl, ?_⟩) | (refine ⟨(show List.length _ = _ from rfl), ?_⟩) | (simp only [wip, resto, List.getElem?_cons_zero, List.getElem?_cons_succ, Option.join_some, Option.join_none, Int.reduceToNat, seqK_nx, seqK_rt, turnK_nx, turnK_ct, maxI_eq, minI_eq, izs_len, fz_tup, fz_lst, fz_dic, fzs_eds, fzs_izs, fzs_nil, fzs_cons, takeArgs, refPos, refsOf, putBack, List.set_cons_zero, List.set_cons_succ, fz_int, fz_bl, fz_non])))
      exact hold ⟨trivial, _, fs, rfl, h.mono (by omega), by omega⟩
  rintro _ _ ⟨rfl, p, fs, rfl, h, hf⟩
  (repeat (first | (refine Q.seq ?_) | (refine Q.asg ?_) | (refine Q.ret ?_) | (refine Q.drop ?_) | (refine Q.nxt ?_) | (refine Q.setB rfl ?_) | (refine Q.val (by rfl) (by first | rfl | (simp only [cln_tup, cln_lst, clns_cons, clns_nil, clns_izs, clns_eds, cln_edge, cln_int, Bool.and_self, Bool.not_false, Bool.and_true, Bool.true_and]; first | done | fail)) ?_) | (refine Q.valv (by rfl) ?_) | (refine Q.takeI (by rfl) ?_) | (refine Q.consA ?_) | (refine Q.consO ?_) | (refine Q.nilO ?_) | (refine Q.nilP ?_) | (refine Q.tupM ?_) | (refine Q.lstM ?_) | (refine Q.dicE ?_) | (refine Q.call ?_) | (refine Q.refA (by rfl) ?_) | (refine Q.subI (by rfl) ?_) | (refine Q.valA ?_) | (refine Q.nilA ?_) | (refine Q.op2 ?_) | (refine Q.un ?_) | (refine Q.callA ?_) | (refine Q.callS ?_) | (refine Q.forS ?_) | (refine Q.iter ?_) | (refine Q.rng1 ?_) | (refine Q.rng2 ?_) | (refine Q.gtup rfl ?_) | (refine Q.gcons ?_) | (refine Q.gnil ?_) | (refine Q.put0 (by rfl) ?_) | (refine retK_rt (by rfl) ?_) | (refine ⟨Nat.le_of_ble_eq_true rfl, ?_⟩) | (refine ⟨_, rfl, big_ok (by omega) (by omega), ?_⟩) | (refine ⟨_, _, rfl, Bool.and_eq_true_iff.mpr ⟨big_ok (by omega) (by omega), big_ok (by omega) (by omega)⟩, ?_⟩) | (refine Q.truP ?_) | (refine Q.mbl ?_) | (refine Q.mtru ?_) | (refine Q.mnot ?_) | (refine Q.mor ?_) | (refine Q.mand ?_) | (refine ⟨by rfl, _, _, by rfl, ?_⟩) | (refine ⟨_, _, _, by rfl, by rfl, ?_⟩) | (refine ew_add ?_) | (refine ey_add ?_) | (refine ew_ii (by first | rfl | exact decide_eq_true (by omega) | exact cMul_l (by omega) (by omega) | exact cMul_r (by omega) (by omega)) ?_) | (refine ew_mul (by first | rfl | exact cMul_l (by omega) (by omega) | exact cMul_r (by omega) (by omega)) ?_) | (refine ey_ii (by first | rfl | exact decide_eq_true (by omega) | exact cMul_l (by omega) (by omega) | exact cMul_r (by omega) (by omega)) ?_) | (refine ey_mul (by first | rfl | exact cMul_l (by omega) (by omega) | exact cMul_r (by omega) (by omega)) ?_) | (refine ew_neg ?_) | (refine ey_neg ?_) | (refine ew_iB ?_) | (refine ey_iB ?_) | (refine ⟨_, by rfl, ?_⟩) | (refine ⟨(show List.length _ = _ from rfl), ?_⟩) | (simp only [wip, resto, List.getElem?_cons_zero, List.getElem?_cons_succ, Option.join_some, Option.join_none, Int.reduceToNat, seqK_nx, seqK_rt, turnK_nx, turnK_ct, maxI_eq, minI_eq, izs_len, fz_tup, fz_lst, fz_dic, fzs_eds, fzs_izs, fzs_nil, fzs_cons, takeArgs, refPos, refsOf, putBack, List.set_cons_zero, List.set_cons_succ, fz_int, fz_bl, fz_non])))
  refine cutH (fun f Γ1 => f = .nx ∧ ∃ (fs : List Int), Γ1 = [some p, some (.int kind), some (webD n es), some (.int k), some (.lst false (izs hs)), some (.lst true (izs fs)), some (.int q), some (.lst false (izs l))] ∧ (fs.length : Int) ≤ n + 1) ?_ ?_
  · refine Q.ifP (c := decide (kind = 6)) (by (simp (disch := omega) only [Int.reduceToNat, atI_z, atI_1, atI_2, List.set_cons_zero, List.set_cons_succ, pOp2, pVar, pCst, pCall, pCons, pNil, pBl, pTru, pNotB, pAndB, pOrB, pAnd, pOr, pNot, pChain, pIf, pUn, pSnoc, iiI, iiB, subX, lenX, blX, truD, seqD, negX, intX, List.getElem?_cons_zero, List.getElem?_cons_succ, List.nil_append, List.cons_append, Int.reduceLT, Int.reduceLE, and_self, and_true, true_and, Bool.and_true, Bool.true_and, decide_eq_true_eq, if_true, if_pos, decide_true, Option.map_some, Bool.false_eq_true, if_false, maxX, minX, eqX_int]) <;> rfl) (fun hc => ?_) (fun hc => ?_)
    · (repeat (first | (refine Q.seq ?_) | (refine Q.asg ?_) | (refine Q.ret ?_) | (refine Q.drop ?_) | (refine Q.nxt ?_) | (refine Q.setB rfl ?_) | (refine Q.val (by rfl) (by first | rfl | (simp only [cln_tup, cln_lst, clns_cons, clns_nil, clns_izs, clns_eds, cln_edge, cln_int, Bool.and_self, Bool.not_false, Bool.and_true, Bool.true_and]; first | done | fail)) ?_) | (refine Q.valv (by rfl) ?_) | (refine Q.takeI (by rfl) ?_) | (refine Q.consA ?_) | (refine Q.consO ?_) | (refine Q.nilO ?_) | (refine Q.nilP ?_) | (refine Q.tupM ?_) | (refine Q.lstM ?_) | (refine Q.dicE ?_) | (refine Q.call ?_) | (refine Q.refA (by rfl) ?_) | (refine Q.subI (by rfl) ?_) | (refine Q.valA ?_) | (refine Q.nilA ?_) | (refine Q.op2 ?_) | (refine Q.un ?_) | (refine Q.callA ?_) | (refine Q.callS ?_) | (refine Q.forS ?_) | (refine Q.iter ?_) | (refine Q.rng1 ?_) | (refine Q.rng2 ?_) | (refine Q.gtup rfl ?_) | (refine Q.gcons ?_) | (refine Q.gnil ?_) | (refine Q.put0 (by rfl) ?_) | (refine retK_rt (by rfl) ?_) | (refine ⟨Nat.le_of_ble_eq_true rfl, ?_⟩) | (refine ⟨_, rfl, big_ok (by omega) (by omega), ?_⟩) | (refine ⟨_, _, rfl, Bool.and_eq_true_iff.mpr ⟨big_ok (by omega) (by omega), big_ok (by omega) (by omega)⟩, ?_⟩) | (refine Q.truP ?_) | (refine Q.mbl ?_) | (refine Q.mtru ?_) | (refine Q.mnot ?_) | (refine Q.mor ?_) | (refine Q.mand ?_) | (refine ⟨by rfl, _, _, by rfl, ?_⟩) | (refine ⟨_, _, _, by rfl, by rfl, ?_⟩) | (refine ew_add ?_) | (refine ey_add ?_) | (refine ew_ii (by first | rfl | exact decide_eq_true (by omega) | exact cMul_l (by omega) (by omega) | exact cMul_r (by omega) (by omega)) ?_) | (refine ew_mul (by first | rfl | exact cMul_l (by omega) (by omega) | exact cMul_r (by omega) (by omega)) ?_) | (refine ey_ii (by first | rfl | exact decide_eq_true (by omega) | exact cMul_l (by omega) (by omega) | exact cMul_r (by omega) (by omega)) ?_) | (refine ey_mul (by first | rfl | exact cMul_l (by omega) (by omega) | exact cMul_r (by omega) (by omega)) ?_) | (refine ew_neg ?_) | (refine ey_neg ?_) | (refine ew_iB ?_) | (refine ey_iB ?_) | (refine ⟨_, by rfl, ?_⟩) | (refine ⟨(show List.length _ = _ from rfl), ?_⟩) | (simp only [wip, resto, List.getElem?_cons_zero, List.getElem?_cons_succ, Option.join_some, Option.join_none, Int.reduceToNat, seqK_nx, seqK_rt, turnK_nx, turnK_ct, maxI_eq, minI_eq, izs_len, fz_tup, fz_lst, fz_dic, fzs_eds, fzs_izs, fzs_nil, fzs_cons, takeArgs, refPos, refsOf, putBack, List.set_cons_zero, List.set_cons_succ, fz_int, fz_bl, fz_non])))
      exact hold ⟨trivial, [], rfl, by simp only [List.length_nil]; omega⟩
    · (repeat (first | (refine Q.seq ?_) | (refine Q.asg ?_) | (refine Q.ret ?_) | (refine Q.drop ?_) | (refine Q.nxt ?_) | (refine Q.setB rfl ?_) | (refine Q.val (by rfl) (by first | rfl | (simp only [cln_tup, cln_lst, clns_cons, clns_nil, clns_izs, clns_eds, cln_edge, cln_int, Bool.and_self, Bool.not_false, Bool.and_true, Bool.true_and]; first | done | fail)) ?_) | (refine Q.valv (by rfl) ?_) | (refine Q.takeI (by rfl) ?_) | (refine Q.consA ?_) | (refine Q.consO ?_) | (refine Q.nilO ?_) | (refine Q.nilP ?_) | (refine Q.tupM ?_) | (refine Q.lstM ?_) | (refine Q.dicE ?_) | (refine Q.call ?_) | (refine Q.refA (by rfl) ?_) | (refine Q.subI (by rfl) ?_) | (refine Q.valA ?_) | (refine Q.nilA ?_) | (refine Q.op2 ?_) | (refine Q.un ?_) | (refine Q.callA ?_) | (refine Q.callS ?_) | (refine Q.forS ?_) | (refine Q.iter ?_) | (refine Q.rng1 ?_) | (refine Q.rng2 ?_) | (refine Q.gtup rfl ?_) | (refine Q.gcons ?_) | (refine Q.gnil ?_) | (refine Q.put0 (by rfl) ?_) | (refine retK_rt (by rfl) ?_) | (refine ⟨Nat.le_of_ble_eq_true rfl, ?_⟩) | (refine ⟨_, rfl, big_ok (by omega) (by omega), ?_⟩) | (refine ⟨_, _, rfl, Bool.and_eq_true_iff.mpr ⟨big_ok (by omega) (by omega), big_ok (by omega) (by omega)⟩, ?_⟩) | (refine Q.truP ?_) | (refine Q.mbl ?_) | (refine Q.mtru ?_) | (refine Q.mnot ?_) | (refine Q.mor ?_) | (refine Q.mand ?_) | (refine ⟨by rfl, _, _, by rfl, ?_⟩) | (refine ⟨_, _, _, by rfl, by rfl, ?_⟩) | (refine ew_add ?_) | (refine ey_add ?_) | (refine ew_ii (by first | rfl | exact decide_eq_true (by omega) | exact cMul_l (by omega) (by omega) | exact cMul_r (by omega) (by omega)) ?_) | (refine ew_mul (by first | rfl | exact cMul_l (by omega) (by omega) | exact cMul_r (by omega) (by omega)) ?_) | (refine ey_ii (by first | rfl | exact decide_eq_true (by omega) | exact cMul_l (by omega) (by omega) | exact cMul_r (by omega) (by omega)) ?_) | (refine ey_mul (by first | rfl | exact cMul_l (by omega) (by omega) | exact cMul_r (by omega) (by omega)) ?_) | (refine ew_neg ?_) | (refine ey_neg ?_) | (refine ew_iB ?_) | (refine ey_iB ?_) | (refine ⟨_, by rfl, ?_⟩) | (refine ⟨(show List.length _ = _ from rfl), ?_⟩) | (simp only [wip, resto, List.getElem?_cons_zero, List.getElem?_cons_succ, Option.join_some, Option.join_none, Int.reduceToNat, seqK_nx, seqK_rt, turnK_nx, turnK_ct, maxI_eq, minI_eq, izs_len, fz_tup, fz_lst, fz_dic, fzs_eds, fzs_izs, fzs_nil, fzs_cons, takeArgs, refPos, refsOf, putBack, List.set_cons_zero, List.set_cons_succ, fz_int, fz_bl, fz_non])))
      exact hold ⟨trivial, fs, rfl, by omega⟩
  rintro _ _ ⟨rfl, fs, rfl, hf⟩
  (repeat (first | (refine Q.seq ?_) | (refine Q.asg ?_) | (refine Q.ret ?_) | (refine Q.drop ?_) | (refine Q.nxt ?_) | (refine Q.setB rfl ?_) | (refine Q.val (by rfl) (by first | rfl | (simp only [cln_tup, cln_lst, clns_cons, clns_nil, clns_izs, clns_eds, cln_edge, cln_int, Bool.and_self, Bool.not_false, Bool.and_true, Bool.true_and]; first | done | fail)) ?_) | (refine Q.valv (by rfl) ?_) | (refine Q.takeI (by rfl) ?_) | (refine Q.consA ?_) | (refine Q.consO ?_) | (refine Q.nilO ?_) | (refine Q.nilP ?_) | (refine Q.tupM ?_) | (refine Q.lstM ?_) | (refine Q.dicE ?_) | (refine Q.call ?_) | (refine Q.refA (by rfl) ?_) | (refine Q.subI (by rfl) ?_) | (refine Q.valA ?_) | (refine Q.nilA ?_) | (refine Q.op2 ?_) | (refine Q.un ?_) | (refine Q.callA ?_) | (refine Q.callS ?_) | (refine Q.forS ?_) | (refine Q.iter ?_) | (refine Q.rng1 ?_) | (refine Q.rng2 ?_) | (refine Q.gtup rfl ?_) | (refine Q.gcons ?_) | (refine Q.gnil ?_) | (refine Q.put0 (by rfl) ?_) | (refine retK_rt (by rfl) ?_) | (refine ⟨Nat.le_of_ble_eq_true rfl, ?_⟩) | (refine ⟨_, rfl, big_ok (by omega) (by omega), ?_⟩) | (refine ⟨_, _, rfl, Bool.and_eq_true_iff.mpr ⟨big_ok (by omega) (by omega), big_ok (by omega) (by omega)⟩, ?_⟩) | (refine Q.truP ?_) | (refine Q.mbl ?_) | (refine Q.mtru ?_) | (refine Q.mnot ?_) | (refine Q.mor ?_) | (refine Q.mand ?_) | (refine ⟨by rfl, _, _, by rfl, ?_⟩) | (refine ⟨_, _, _, by rfl, by rfl, ?_⟩) | (refine ew_add ?_) | (refine ey_add ?_) | (refine ew_ii (by first | rfl | exact decide_eq_true (by omega) | exact cMul_l (by omega) (by omega) | exact cMul_r (by omega) (by omega)) ?_) | (refine ew_mul (by first | rfl | exact cMul_l (by omega) (by omega) | exact cMul_r (by omega) (by omega)) ?_) | (refine ey_ii (by first | rfl | exact decide_eq_true (by omega) | exact cMul_l (by omega) (by omega) | exact cMul_r (by omega) (by omega)) ?_) | (refine ey_mul (by first | rfl | exact cMul_l (by omega) (by omega) | exact cMul_r (by omega) (by omega)) ?_) | (refine ew_neg ?_) | (refine ey_neg ?_) | (refine ew_iB ?_) | (refine ey_iB ?_) | (refine ⟨_, by rfl, ?_⟩) | (refine ⟨(show List.length _ = _ from rfl), ?_⟩) | (simp only [wip, resto, List.getElem?_cons_zero, List.getElem?_cons_succ, Option.join_some, Option.join_none, Int.reduceToNat, seqK_nx, seqK_rt, turnK_nx, turnK_ct, maxI_eq, minI_eq, izs_len, fz_tup, fz_lst, fz_dic, fzs_eds, fzs_izs, fzs_nil, fzs_cons, takeArgs, refPos, refsOf, putBack, List.set_cons_zero, List.set_cons_succ, fz_int, fz_bl, fz_non])))
  exact ⟨fs, _, rfl, hf, rfl, h.mono (by omega)⟩
end K59

namespace K59
open PySem L2 PX
theorem lawmain : ∀ ns : List Int, ns.length ≤ 63 → lawF [.klst (ns.map .int)] = some (.ok (.bl true), []) := by
  intro ns hns
  have main : Ret (lawF [.klst (izs ns)]) fun r os => r = .bl true ∧ os = [] := by
    refine Q.start (by (simp only [entry, List.map_cons, List.map_nil, List.length_cons, List.length_nil, List.replicate, List.cons_append, List.nil_append, Nat.reduceAdd, Nat.reduceSub]) <;> rfl) ?_
    unfold lawB
    (repeat (first | (refine Q.seq ?_) | (refine Q.asg ?_) | (refine Q.ret ?_) | (refine Q.drop ?_) | (refine Q.nxt ?_) | (refine Q.setB rfl ?_) | (refine Q.val (by rfl) (by first | rfl | (simp only [cln_tup, cln_lst, clns_cons, clns_nil, clns_izs, clns_eds, cln_edge, cln_int, cln_klst, cln_web, Bool.and_self, Bool.not_false, Bool.and_true, Bool.true_and]; first | done | fail)) ?_) | (refine Q.valv (by rfl) ?_) | (refine Q.takeI (by rfl) ?_) | (refine Q.consA ?_) | (refine Q.consO ?_) | (refine Q.nilO ?_) | (refine Q.nilP ?_) | (refine Q.tupM ?_) | (refine Q.lstM ?_) | (refine Q.dicE ?_) | (refine Q.call ?_) | (refine Q.refA (by rfl) ?_) | (refine Q.subI (by rfl) ?_) | (refine Q.valA ?_) | (refine Q.nilA ?_) | (refine Q.op2 ?_) | (refine Q.un ?_) | (refine Q.callA ?_) | (refine Q.callS ?_) | (refine Q.forS ?_) | (refine Q.iter ?_) | (refine Q.rng1 ?_) | (refine Q.rng2 ?_) | (refine Q.gtup rfl ?_) | (refine Q.gcons ?_) | (refine Q.gnil ?_) | (refine Q.put0 (by rfl) ?_) | (refine retK_rt (by rfl) ?_) | (refine ⟨Nat.le_of_ble_eq_true rfl, ?_⟩) | (refine ⟨_, rfl, big_ok (by omega) (by omega), ?_⟩) | (refine ⟨_, _, rfl, Bool.and_eq_true_iff.mpr ⟨big_ok (by omega) (by omega), big_ok (by omega) (by omega)⟩, ?_⟩) | (refine Q.truP ?_) | (refine Q.mbl ?_) | (refine Q.mtru ?_) | (refine Q.mnot ?_) | (refine Q.mor ?_) | (refine Q.mand ?_) | (refine ⟨by rfl, _, _, by rfl, ?_⟩) | (refine ⟨_, _, _, by rfl, by rfl, ?_⟩) | (refine ew_add ?_) | (refine ey_add ?_) | (refine ew_ii (by first | rfl | exact decide_eq_true (by omega) | exact cMul_l (by omega) (by omega) | exact cMul_r (by omega) (by omega)) ?_) | (refine ew_mul (by first | rfl | exact cMul_l (by omega) (by omega) | exact cMul_r (by omega) (by omega)) ?_) | (refine ey_ii (by first | rfl | exact decide_eq_true (by omega) | exact cMul_l (by omega) (by omega) | exact cMul_r (by omega) (by omega)) ?_) | (refine ey_mul (by first | rfl | exact cMul_l (by omega) (by omega) | exact cMul_r (by omega) (by omega)) ?_) | (refine ew_neg ?_) | (refine ey_neg ?_) | (refine ew_iB ?_) | (refine ey_iB ?_) | (refine ⟨_, by rfl, ?_⟩) | (refine ⟨(show List.length _ = _ from rfl), ?_⟩) | (simp only [wip, resto, List.getElem?_cons_zero, List.getElem?_cons_succ, Option.join_some, Option.join_none, Int.reduceToNat, seqK_nx, seqK_rt, turnK_nx, turnK_ct, maxI_eq, minI_eq, izs_len, fz_tup, fz_web, fz_lst, fz_dic, fz_klst, fzs_eds, fzs_izs, fzs_nil, fzs_cons, takeArgs, refPos, refsOf, putBack, List.set_cons_zero, List.set_cons_succ, fz_int, fz_bl, fz_non])))
    refine Q.forL (fun i Γ => ∃ a1 a2 a3 a4 a5 a6 a7 a8 : Option D, Γ = [some (.klst (izs ns)), a1, a2, a3, a4, a5, a6, a7, a8]) ?_ ?_ ?_
    · exact ⟨_, _, _, _, _, _, _, _, rfl⟩
    · rintro i d Γ hd ⟨a1, a2, a3, a4, a5, a6, a7, a8, rfl⟩
      obtain ⟨rfl, hi⟩ := rng_get hd
      (repeat (first | (refine Q.seq ?_) | (refine Q.asg ?_) | (refine Q.ret ?_) | (refine Q.drop ?_) | (refine Q.nxt ?_) | (refine Q.setB rfl ?_) | (refine Q.val (by rfl) (by first | rfl | (simp only [cln_tup, cln_lst, clns_cons, clns_nil, clns_izs, clns_eds, cln_edge, cln_int, cln_klst, cln_web, Bool.and_self, Bool.not_false, Bool.and_true, Bool.true_and]; first | done | fail)) ?_) | (refine Q.valv (by rfl) ?_) | (refine Q.takeI (by rfl) ?_) | (refine Q.consA ?_) | (refine Q.consO ?_) | (refine Q.nilO ?_) | (refine Q.nilP ?_) | (refine Q.tupM ?_) | (refine Q.lstM ?_) | (refine Q.dicE ?_) | (refine Q.call ?_) | (refine Q.refA (by rfl) ?_) | (refine Q.subI (by rfl) ?_) | (refine Q.valA ?_) | (refine Q.nilA ?_) | (refine Q.op2 ?_) | (refine Q.un ?_) | (refine Q.callA ?_) | (refine Q.callS ?_) | (refine Q.forS ?_) | (refine Q.iter ?_) | (refine Q.rng1 ?_) | (refine Q.rng2 ?_) | (refine Q.gtup rfl ?_) | (refine Q.gcons ?_) | (refine Q.gnil ?_) | (refine Q.put0 (by rfl) ?_) | (refine retK_rt (by rfl) ?_) | (refine ⟨Nat.le_of_ble_eq_true rfl, ?_⟩) | (refine ⟨_, rfl, big_ok (by omega) (by omega), ?_⟩) | (refine ⟨_, _, rfl, Bool.and_eq_true_iff.mpr ⟨big_ok (by omega) (by omega), big_ok (by omega) (by omega)⟩, ?_⟩) | (refine Q.truP ?_) | (refine Q.mbl ?_) | (refine Q.mtru ?_) | (refine Q.mnot ?_) | (refine Q.mor ?_) | (refine Q.mand ?_) | (refine ⟨by rfl, _, _, by rfl, ?_⟩) | (refine ⟨_, _, _, by rfl, by rfl, ?_⟩) | (refine ew_add ?_) | (refine ey_add ?_) | (refine ew_ii (by first | rfl | exact decide_eq_true (by omega) | exact cMul_l (by omega) (by omega) | exact cMul_r (by omega) (by omega)) ?_) | (refine ew_mul (by first | rfl | exact cMul_l (by omega) (by omega) | exact cMul_r (by omega) (by omega)) ?_) | (refine ey_ii (by first | rfl | exact decide_eq_true (by omega) | exact cMul_l (by omega) (by omega) | exact cMul_r (by omega) (by omega)) ?_) | (refine ey_mul (by first | rfl | exact cMul_l (by omega) (by omega) | exact cMul_r (by omega) (by omega)) ?_) | (refine ew_neg ?_) | (refine ey_neg ?_) | (refine ew_iB ?_) | (refine ey_iB ?_) | (refine ⟨_, by rfl, ?_⟩) | (refine ⟨(show List.length _ = _ from rfl), ?_⟩) | (simp only [wip, resto, List.getElem?_cons_zero, List.getElem?_cons_succ, Option.join_some, Option.join_none, Int.reduceToNat, seqK_nx, seqK_rt, turnK_nx, turnK_ct, maxI_eq, minI_eq, izs_len, fz_tup, fz_web, fz_lst, fz_dic, fz_klst, fzs_eds, fzs_izs, fzs_nil, fzs_cons, takeArgs, refPos, refsOf, putBack, List.set_cons_zero, List.set_cons_succ, fz_int, fz_bl, fz_non])))
      refine (pen_ok (by omega) (by omega)).imp ?_
      rintro p _ ⟨h, rfl⟩
      (repeat (first | (refine Q.seq ?_) | (refine Q.asg ?_) | (refine Q.ret ?_) | (refine Q.drop ?_) | (refine Q.nxt ?_) | (refine Q.setB rfl ?_) | (refine Q.val (by rfl) (by first | rfl | (simp only [cln_tup, cln_lst, clns_cons, clns_nil, clns_izs, clns_eds, cln_edge, cln_int, cln_klst, cln_web, Bool.and_self, Bool.not_false, Bool.and_true, Bool.true_and]; first | done | fail)) ?_) | (refine Q.valv (by rfl) ?_) | (refine Q.takeI (by rfl) ?_) | (refine Q.consA ?_) | (refine Q.consO ?_) | (refine Q.nilO ?_) | (refine Q.nilP ?_) | (refine Q.tupM ?_) | (refine Q.lstM ?_) | (refine Q.dicE ?_) | (refine Q.call ?_) | (refine Q.refA (by rfl) ?_) | (refine Q.subI (by rfl) ?_) | (refine Q.valA ?_) | (refine Q.nilA ?_) | (refine Q.op2 ?_) | (refine Q.un ?_) | (refine Q.callA ?_) | (refine Q.callS ?_) | (refine Q.forS ?_) | (refine Q.iter ?_) | (refine Q.rng1 ?_) | (refine Q.rng2 ?_) | (refine Q.gtup rfl ?_) | (refine Q.gcons ?_) | (refine Q.gnil ?_) | (refine Q.put0 (by rfl) ?_) | (refine retK_rt (by rfl) ?_) | (refine ⟨Nat.le_of_ble_eq_true rfl, ?_⟩) | (refine ⟨_, rfl, big_ok (by omega) (by omega), ?_⟩) | (refine ⟨_, _, rfl, Bool.and_eq_true_iff.mpr ⟨big_ok (by omega) (by omega), big_ok (by omega) (by omega)⟩, ?_⟩) | (refine Q.truP ?_) | (refine Q.mbl ?_) | (refine Q.mtru ?_) | (refine Q.mnot ?_) | (refine Q.mor ?_) | (refine Q.mand ?_) | (refine ⟨by rfl, _, _, by rfl, ?_⟩) | (refine ⟨_, _, _, by rfl, by rfl, ?_⟩) | (refine ew_add ?_) | (refine ey_add ?_) | (refine ew_ii (by first | rfl | exact decide_eq_true (by omega) | exact cMul_l (by omega) (by omega) | exact cMul_r (by omega) (by omega)) ?_) | (refine ew_mul (by first | rfl | exact cMul_l (by omega) (by omega) | exact cMul_r (by omega) (by omega)) ?_) | (refine ey_ii (by first | rfl | exact decide_eq_true (by omega) | exact cMul_l (by omega) (by omega) | exact cMul_r (by omega) (by omega)) ?_) | (refine ey_mul (by first | rfl | exact cMul_l (by omega) (by omega) | exact cMul_r (by omega) (by omega)) ?_) | (refine ew_neg ?_) | (refine ey_neg ?_) | (refine ew_iB ?_) | (refine ey_iB ?_) | (refine ⟨_, by rfl, ?_⟩) | (refine ⟨(show List.length _ = _ from rfl), ?_⟩) | (simp only [wip, resto, List.getElem?_cons_zero, List.getElem?_cons_succ, Option.join_some, Option.join_none, Int.reduceToNat, seqK_nx, seqK_rt, turnK_nx, turnK_ct, maxI_eq, minI_eq, izs_len, fz_tup, fz_web, fz_lst, fz_dic, fz_klst, fzs_eds, fzs_izs, fzs_nil, fzs_cons, takeArgs, refPos, refsOf, putBack, List.set_cons_zero, List.set_cons_succ, fz_int, fz_bl, fz_non])))
      (refine (draw_ok (by assumption) (by omega) (by omega) (by omega)).imp ?_; rintro _ _ ⟨kind, hd, rfl, kind0, kind1, rfl, h⟩)
      (repeat (first | (refine Q.seq ?_) | (refine Q.asg ?_) | (refine Q.ret ?_) | (refine Q.drop ?_) | (refine Q.nxt ?_) | (refine Q.setB rfl ?_) | (refine Q.val (by rfl) (by first | rfl | (simp only [cln_tup, cln_lst, clns_cons, clns_nil, clns_izs, clns_eds, cln_edge, cln_int, cln_klst, cln_web, Bool.and_self, Bool.not_false, Bool.and_true, Bool.true_and]; first | done | fail)) ?_) | (refine Q.valv (by rfl) ?_) | (refine Q.takeI (by rfl) ?_) | (refine Q.consA ?_) | (refine Q.consO ?_) | (refine Q.nilO ?_) | (refine Q.nilP ?_) | (refine Q.tupM ?_) | (refine Q.lstM ?_) | (refine Q.dicE ?_) | (refine Q.call ?_) | (refine Q.refA (by rfl) ?_) | (refine Q.subI (by rfl) ?_) | (refine Q.valA ?_) | (refine Q.nilA ?_) | (refine Q.op2 ?_) | (refine Q.un ?_) | (refine Q.callA ?_) | (refine Q.callS ?_) | (refine Q.forS ?_) | (refine Q.iter ?_) | (refine Q.rng1 ?_) | (refine Q.rng2 ?_) | (refine Q.gtup rfl ?_) | (refine Q.gcons ?_) | (refine Q.gnil ?_) | (refine Q.put0 (by rfl) ?_) | (refine retK_rt (by rfl) ?_) | (refine ⟨Nat.le_of_ble_eq_true rfl, ?_⟩) | (refine ⟨_, rfl, big_ok (by omega) (by omega), ?_⟩) | (refine ⟨_, _, rfl, Bool.and_eq_true_iff.mpr ⟨big_ok (by omega) (by omega), big_ok (by omega) (by omega)⟩, ?_⟩) | (refine Q.truP ?_) | (refine Q.mbl ?_) | (refine Q.mtru ?_) | (refine Q.mnot ?_) | (refine Q.mor ?_) | (refine Q.mand ?_) | (refine ⟨by rfl, _, _, by rfl, ?_⟩) | (refine ⟨_, _, _, by rfl, by rfl, ?_⟩) | (refine ew_add ?_) | (refine ey_add ?_) | (refine ew_ii (by first | rfl | exact decide_eq_true (by omega) | exact cMul_l (by omega) (by omega) | exact cMul_r (by omega) (by omega)) ?_) | (refine ew_mul (by first | rfl | exact cMul_l (by omega) (by omega) | exact cMul_r (by omega) (by omega)) ?_) | (refine ey_ii (by first | rfl | exact decide_eq_true (by omega) | exact cMul_l (by omega) (by omega) | exact cMul_r (by omega) (by omega)) ?_) | (refine ey_mul (by first | rfl | exact cMul_l (by omega) (by omega) | exact cMul_r (by omega) (by omega)) ?_) | (refine ew_neg ?_) | (refine ey_neg ?_) | (refine ew_iB ?_) | (refine ey_iB ?_) | (refine ⟨_, by rfl, ?_⟩) | (refine ⟨(show List.length _ = _ from rfl), ?_⟩) | (simp only [wip, resto, List.getElem?_cons_zero, List.getElem?_cons_succ, Option.join_some, Option.join_none, Int.reduceToNat, seqK_nx, seqK_rt, turnK_nx, turnK_ct, maxI_eq, minI_eq, izs_len, fz_tup, fz_web, fz_lst, fz_dic, fz_klst, fzs_eds, fzs_izs, fzs_nil, fzs_cons, takeArgs, refPos, refsOf, putBack, List.set_cons_zero, List.set_cons_succ, fz_int, fz_bl, fz_non])))
      (refine (draw_ok (by assumption) (by omega) (by omega) (by omega)).imp ?_; rintro _ _ ⟨k, hd, rfl, k0, k1, rfl, h⟩)
      (repeat (first | (refine Q.seq ?_) | (refine Q.asg ?_) | (refine Q.ret ?_) | (refine Q.drop ?_) | (refine Q.nxt ?_) | (refine Q.setB rfl ?_) | (refine Q.val (by rfl) (by first | rfl | (simp only [cln_tup, cln_lst, clns_cons, clns_nil, clns_izs, clns_eds, cln_edge, cln_int, cln_klst, cln_web, Bool.and_self, Bool.not_false, Bool.and_true, Bool.true_and]; first | done | fail)) ?_) | (refine Q.valv (by rfl) ?_) | (refine Q.takeI (by rfl) ?_) | (refine Q.consA ?_) | (refine Q.consO ?_) | (refine Q.nilO ?_) | (refine Q.nilP ?_) | (refine Q.tupM ?_) | (refine Q.lstM ?_) | (refine Q.dicE ?_) | (refine Q.call ?_) | (refine Q.refA (by rfl) ?_) | (refine Q.subI (by rfl) ?_) | (refine Q.valA ?_) | (refine Q.nilA ?_) | (refine Q.op2 ?_) | (refine Q.un ?_) | (refine Q.callA ?_) | (refine Q.callS ?_) | (refine Q.forS ?_) | (refine Q.iter ?_) | (refine Q.rng1 ?_) | (refine Q.rng2 ?_) | (refine Q.gtup rfl ?_) | (refine Q.gcons ?_) | (refine Q.gnil ?_) | (refine Q.put0 (by rfl) ?_) | (refine retK_rt (by rfl) ?_) | (refine ⟨Nat.le_of_ble_eq_true rfl, ?_⟩) | (refine ⟨_, rfl, big_ok (by omega) (by omega), ?_⟩) | (refine ⟨_, _, rfl, Bool.and_eq_true_iff.mpr ⟨big_ok (by omega) (by omega), big_ok (by omega) (by omega)⟩, ?_⟩) | (refine Q.truP ?_) | (refine Q.mbl ?_) | (refine Q.mtru ?_) | (refine Q.mnot ?_) | (refine Q.mor ?_) | (refine Q.mand ?_) | (refine ⟨by rfl, _, _, by rfl, ?_⟩) | (refine ⟨_, _, _, by rfl, by rfl, ?_⟩) | (refine ew_add ?_) | (refine ey_add ?_) | (refine ew_ii (by first | rfl | exact decide_eq_true (by omega) | exact cMul_l (by omega) (by omega) | exact cMul_r (by omega) (by omega)) ?_) | (refine ew_mul (by first | rfl | exact cMul_l (by omega) (by omega) | exact cMul_r (by omega) (by omega)) ?_) | (refine ey_ii (by first | rfl | exact decide_eq_true (by omega) | exact cMul_l (by omega) (by omega) | exact cMul_r (by omega) (by omega)) ?_) | (refine ey_mul (by first | rfl | exact cMul_l (by omega) (by omega) | exact cMul_r (by omega) (by omega)) ?_) | (refine ew_neg ?_) | (refine ey_neg ?_) | (refine ew_iB ?_) | (refine ey_iB ?_) | (refine ⟨_, by rfl, ?_⟩) | (refine ⟨(show List.length _ = _ from rfl), ?_⟩) | (simp only [wip, resto, List.getElem?_cons_zero, List.getElem?_cons_succ, Option.join_some, Option.join_none, Int.reduceToNat, seqK_nx, seqK_rt, turnK_nx, turnK_ct, maxI_eq, minI_eq, izs_len, fz_tup, fz_web, fz_lst, fz_dic, fz_klst, fzs_eds, fzs_izs, fzs_nil, fzs_cons, takeArgs, refPos, refsOf, putBack, List.set_cons_zero, List.set_cons_succ, fz_int, fz_bl, fz_non])))
      refine (any_web_ok h (by omega) (by omega) (by omega)).imp ?_
      rintro _ _ ⟨n, es, p1, rfl, hn, hn2, he, hl, rfl, h⟩
      (repeat (first | (refine Q.seq ?_) | (refine Q.asg ?_) | (refine Q.ret ?_) | (refine Q.drop ?_) | (refine Q.nxt ?_) | (refine Q.setB rfl ?_) | (refine Q.val (by rfl) (by first | rfl | (simp only [cln_tup, cln_lst, clns_cons, clns_nil, clns_izs, clns_eds, cln_edge, cln_int, cln_klst, cln_web, Bool.and_self, Bool.not_false, Bool.and_true, Bool.true_and]; first | done | fail)) ?_) | (refine Q.valv (by rfl) ?_) | (refine Q.takeI (by rfl) ?_) | (refine Q.consA ?_) | (refine Q.consO ?_) | (refine Q.nilO ?_) | (refine Q.nilP ?_) | (refine Q.tupM ?_) | (refine Q.lstM ?_) | (refine Q.dicE ?_) | (refine Q.call ?_) | (refine Q.refA (by rfl) ?_) | (refine Q.subI (by rfl) ?_) | (refine Q.valA ?_) | (refine Q.nilA ?_) | (refine Q.op2 ?_) | (refine Q.un ?_) | (refine Q.callA ?_) | (refine Q.callS ?_) | (refine Q.forS ?_) | (refine Q.iter ?_) | (refine Q.rng1 ?_) | (refine Q.rng2 ?_) | (refine Q.gtup rfl ?_) | (refine Q.gcons ?_) | (refine Q.gnil ?_) | (refine Q.put0 (by rfl) ?_) | (refine retK_rt (by rfl) ?_) | (refine ⟨Nat.le_of_ble_eq_true rfl, ?_⟩) | (refine ⟨_, rfl, big_ok (by omega) (by omega), ?_⟩) | (refine ⟨_, _, rfl, Bool.and_eq_true_iff.mpr ⟨big_ok (by omega) (by omega), big_ok (by omega) (by omega)⟩, ?_⟩) | (refine Q.truP ?_) | (refine Q.mbl ?_) | (refine Q.mtru ?_) | (refine Q.mnot ?_) | (refine Q.mor ?_) | (refine Q.mand ?_) | (refine ⟨by rfl, _, _, by rfl, ?_⟩) | (refine ⟨_, _, _, by rfl, by rfl, ?_⟩) | (refine ew_add ?_) | (refine ey_add ?_) | (refine ew_ii (by first | rfl | exact decide_eq_true (by omega) | exact cMul_l (by omega) (by omega) | exact cMul_r (by omega) (by omega)) ?_) | (refine ew_mul (by first | rfl | exact cMul_l (by omega) (by omega) | exact cMul_r (by omega) (by omega)) ?_) | (refine ey_ii (by first | rfl | exact decide_eq_true (by omega) | exact cMul_l (by omega) (by omega) | exact cMul_r (by omega) (by omega)) ?_) | (refine ey_mul (by first | rfl | exact cMul_l (by omega) (by omega) | exact cMul_r (by omega) (by omega)) ?_) | (refine ew_neg ?_) | (refine ey_neg ?_) | (refine ew_iB ?_) | (refine ey_iB ?_) | (refine ⟨_, by rfl, ?_⟩) | (refine ⟨(show List.length _ = _ from rfl), ?_⟩) | (simp only [wip, resto, List.getElem?_cons_zero, List.getElem?_cons_succ, Option.join_some, Option.join_none, Int.reduceToNat, seqK_nx, seqK_rt, turnK_nx, turnK_ct, maxI_eq, minI_eq, izs_len, fz_tup, fz_web, fz_lst, fz_dic, fz_klst, fzs_eds, fzs_izs, fzs_nil, fzs_cons, takeArgs, refPos, refsOf, putBack, List.set_cons_zero, List.set_cons_succ, fz_int, fz_bl, fz_non])))
      refine (hued_ok h (by omega) hn (by omega) (by omega) (by omega) he (by omega)).imp ?_
      rintro _ _ ⟨hs, p2, rfl, hh, rfl, h⟩
      (repeat (first | (refine Q.seq ?_) | (refine Q.asg ?_) | (refine Q.ret ?_) | (refine Q.drop ?_) | (refine Q.nxt ?_) | (refine Q.setB rfl ?_) | (refine Q.val (by rfl) (by first | rfl | (simp only [cln_tup, cln_lst, clns_cons, clns_nil, clns_izs, clns_eds, cln_edge, cln_int, cln_klst, cln_web, Bool.and_self, Bool.not_false, Bool.and_true, Bool.true_and]; first | done | fail)) ?_) | (refine Q.valv (by rfl) ?_) | (refine Q.takeI (by rfl) ?_) | (refine Q.consA ?_) | (refine Q.consO ?_) | (refine Q.nilO ?_) | (refine Q.nilP ?_) | (refine Q.tupM ?_) | (refine Q.lstM ?_) | (refine Q.dicE ?_) | (refine Q.call ?_) | (refine Q.refA (by rfl) ?_) | (refine Q.subI (by rfl) ?_) | (refine Q.valA ?_) | (refine Q.nilA ?_) | (refine Q.op2 ?_) | (refine Q.un ?_) | (refine Q.callA ?_) | (refine Q.callS ?_) | (refine Q.forS ?_) | (refine Q.iter ?_) | (refine Q.rng1 ?_) | (refine Q.rng2 ?_) | (refine Q.gtup rfl ?_) | (refine Q.gcons ?_) | (refine Q.gnil ?_) | (refine Q.put0 (by rfl) ?_) | (refine retK_rt (by rfl) ?_) | (refine ⟨Nat.le_of_ble_eq_true rfl, ?_⟩) | (refine ⟨_, rfl, big_ok (by omega) (by omega), ?_⟩) | (refine ⟨_, _, rfl, Bool.and_eq_true_iff.mpr ⟨big_ok (by omega) (by omega), big_ok (by omega) (by omega)⟩, ?_⟩) | (refine Q.truP ?_) | (refine Q.mbl ?_) | (refine Q.mtru ?_) | (refine Q.mnot ?_) | (refine Q.mor ?_) | (refine Q.mand ?_) | (refine ⟨by rfl, _, _, by rfl, ?_⟩) | (refine ⟨_, _, _, by rfl, by rfl, ?_⟩) | (refine ew_add ?_) | (refine ey_add ?_) | (refine ew_ii (by first | rfl | exact decide_eq_true (by omega) | exact cMul_l (by omega) (by omega) | exact cMul_r (by omega) (by omega)) ?_) | (refine ew_mul (by first | rfl | exact cMul_l (by omega) (by omega) | exact cMul_r (by omega) (by omega)) ?_) | (refine ey_ii (by first | rfl | exact decide_eq_true (by omega) | exact cMul_l (by omega) (by omega) | exact cMul_r (by omega) (by omega)) ?_) | (refine ey_mul (by first | rfl | exact cMul_l (by omega) (by omega) | exact cMul_r (by omega) (by omega)) ?_) | (refine ew_neg ?_) | (refine ey_neg ?_) | (refine ew_iB ?_) | (refine ey_iB ?_) | (refine ⟨_, by rfl, ?_⟩) | (refine ⟨(show List.length _ = _ from rfl), ?_⟩) | (simp only [wip, resto, List.getElem?_cons_zero, List.getElem?_cons_succ, Option.join_some, Option.join_none, Int.reduceToNat, seqK_nx, seqK_rt, turnK_nx, turnK_ct, maxI_eq, minI_eq, izs_len, fz_tup, fz_web, fz_lst, fz_dic, fz_klst, fzs_eds, fzs_izs, fzs_nil, fzs_cons, takeArgs, refPos, refsOf, putBack, List.set_cons_zero, List.set_cons_succ, fz_int, fz_bl, fz_non])))
      refine (spoilt_ok h (by omega) hn (by omega) (by omega) (by omega) he (by omega) hh).imp ?_
      rintro _ _ ⟨hs', p3, rfl, hh', rfl, h⟩
      (repeat (first | (refine Q.seq ?_) | (refine Q.asg ?_) | (refine Q.ret ?_) | (refine Q.drop ?_) | (refine Q.nxt ?_) | (refine Q.setB rfl ?_) | (refine Q.val (by rfl) (by first | rfl | (simp only [cln_tup, cln_lst, clns_cons, clns_nil, clns_izs, clns_eds, cln_edge, cln_int, cln_klst, cln_web, Bool.and_self, Bool.not_false, Bool.and_true, Bool.true_and]; first | done | fail)) ?_) | (refine Q.valv (by rfl) ?_) | (refine Q.takeI (by rfl) ?_) | (refine Q.consA ?_) | (refine Q.consO ?_) | (refine Q.nilO ?_) | (refine Q.nilP ?_) | (refine Q.tupM ?_) | (refine Q.lstM ?_) | (refine Q.dicE ?_) | (refine Q.call ?_) | (refine Q.refA (by rfl) ?_) | (refine Q.subI (by rfl) ?_) | (refine Q.valA ?_) | (refine Q.nilA ?_) | (refine Q.op2 ?_) | (refine Q.un ?_) | (refine Q.callA ?_) | (refine Q.callS ?_) | (refine Q.forS ?_) | (refine Q.iter ?_) | (refine Q.rng1 ?_) | (refine Q.rng2 ?_) | (refine Q.gtup rfl ?_) | (refine Q.gcons ?_) | (refine Q.gnil ?_) | (refine Q.put0 (by rfl) ?_) | (refine retK_rt (by rfl) ?_) | (refine ⟨Nat.le_of_ble_eq_true rfl, ?_⟩) | (refine ⟨_, rfl, big_ok (by omega) (by omega), ?_⟩) | (refine ⟨_, _, rfl, Bool.and_eq_true_iff.mpr ⟨big_ok (by omega) (by omega), big_ok (by omega) (by omega)⟩, ?_⟩) | (refine Q.truP ?_) | (refine Q.mbl ?_) | (refine Q.mtru ?_) | (refine Q.mnot ?_) | (refine Q.mor ?_) | (refine Q.mand ?_) | (refine ⟨by rfl, _, _, by rfl, ?_⟩) | (refine ⟨_, _, _, by rfl, by rfl, ?_⟩) | (refine ew_add ?_) | (refine ey_add ?_) | (refine ew_ii (by first | rfl | exact decide_eq_true (by omega) | exact cMul_l (by omega) (by omega) | exact cMul_r (by omega) (by omega)) ?_) | (refine ew_mul (by first | rfl | exact cMul_l (by omega) (by omega) | exact cMul_r (by omega) (by omega)) ?_) | (refine ey_ii (by first | rfl | exact decide_eq_true (by omega) | exact cMul_l (by omega) (by omega) | exact cMul_r (by omega) (by omega)) ?_) | (refine ey_mul (by first | rfl | exact cMul_l (by omega) (by omega) | exact cMul_r (by omega) (by omega)) ?_) | (refine ew_neg ?_) | (refine ey_neg ?_) | (refine ew_iB ?_) | (refine ey_iB ?_) | (refine ⟨_, by rfl, ?_⟩) | (refine ⟨(show List.length _ = _ from rfl), ?_⟩) | (simp only [wip, resto, List.getElem?_cons_zero, List.getElem?_cons_succ, Option.join_some, Option.join_none, Int.reduceToNat, seqK_nx, seqK_rt, turnK_nx, turnK_ct, maxI_eq, minI_eq, izs_len, fz_tup, fz_web, fz_lst, fz_dic, fz_klst, fzs_eds, fzs_izs, fzs_nil, fzs_cons, takeArgs, refPos, refsOf, putBack, List.set_cons_zero, List.set_cons_succ, fz_int, fz_bl, fz_non])))
      refine Q.forL (fun j Γ => ∃ (o : Bool) (b1 b2 : Option D), Γ = [some (.klst (izs ns)), some (.int (0 + (i : Int))), some p3, some (.int kind), some (.int k), some (webD n es), some (.lst o (izs hs')), b1, b2]) ?_ ?_ ?_
      · exact ⟨_, _, _, rfl⟩
      · rintro j d Γ hd ⟨o, b1, b2, rfl⟩
        obtain ⟨many, _, rfl, _⟩ := getIzs (xs := [k, min 4 (k + 1), max 0 (k - 1), k]) hd
        (repeat (first | (refine Q.seq ?_) | (refine Q.asg ?_) | (refine Q.ret ?_) | (refine Q.drop ?_) | (refine Q.nxt ?_) | (refine Q.setB rfl ?_) | (refine Q.val (by rfl) (by first | rfl | (simp only [cln_tup, cln_lst, clns_cons, clns_nil, clns_izs, clns_eds, cln_edge, cln_int, cln_klst, cln_web, Bool.and_self, Bool.not_false, Bool.and_true, Bool.true_and]; first | done | fail)) ?_) | (refine Q.valv (by rfl) ?_) | (refine Q.takeI (by rfl) ?_) | (refine Q.consA ?_) | (refine Q.consO ?_) | (refine Q.nilO ?_) | (refine Q.nilP ?_) | (refine Q.tupM ?_) | (refine Q.lstM ?_) | (refine Q.dicE ?_) | (refine Q.call ?_) | (refine Q.refA (by rfl) ?_) | (refine Q.subI (by rfl) ?_) | (refine Q.valA ?_) | (refine Q.nilA ?_) | (refine Q.op2 ?_) | (refine Q.un ?_) | (refine Q.callA ?_) | (refine Q.callS ?_) | (refine Q.forS ?_) | (refine Q.iter ?_) | (refine Q.rng1 ?_) | (refine Q.rng2 ?_) | (refine Q.gtup rfl ?_) | (refine Q.gcons ?_) | (refine Q.gnil ?_) | (refine Q.put0 (by rfl) ?_) | (refine retK_rt (by rfl) ?_) | (refine ⟨Nat.le_of_ble_eq_true rfl, ?_⟩) | (refine ⟨_, rfl, big_ok (by omega) (by omega), ?_⟩) | (refine ⟨_, _, rfl, Bool.and_eq_true_iff.mpr ⟨big_ok (by omega) (by omega), big_ok (by omega) (by omega)⟩, ?_⟩) | (refine Q.truP ?_) | (refine Q.mbl ?_) | (refine Q.mtru ?_) | (refine Q.mnot ?_) | (refine Q.mor ?_) | (refine Q.mand ?_) | (refine ⟨by rfl, _, _, by rfl, ?_⟩) | (refine ⟨_, _, _, by rfl, by rfl, ?_⟩) | (refine ew_add ?_) | (refine ey_add ?_) | (refine ew_ii (by first | rfl | exact decide_eq_true (by omega) | exact cMul_l (by omega) (by omega) | exact cMul_r (by omega) (by omega)) ?_) | (refine ew_mul (by first | rfl | exact cMul_l (by omega) (by omega) | exact cMul_r (by omega) (by omega)) ?_) | (refine ey_ii (by first | rfl | exact decide_eq_true (by omega) | exact cMul_l (by omega) (by omega) | exact cMul_r (by omega) (by omega)) ?_) | (refine ey_mul (by first | rfl | exact cMul_l (by omega) (by omega) | exact cMul_r (by omega) (by omega)) ?_) | (refine ew_neg ?_) | (refine ey_neg ?_) | (refine ew_iB ?_) | (refine ey_iB ?_) | (refine ⟨_, by rfl, ?_⟩) | (refine ⟨(show List.length _ = _ from rfl), ?_⟩) | (simp only [wip, resto, List.getElem?_cons_zero, List.getElem?_cons_succ, Option.join_some, Option.join_none, Int.reduceToNat, seqK_nx, seqK_rt, turnK_nx, turnK_ct, maxI_eq, minI_eq, izs_len, fz_tup, fz_web, fz_lst, fz_dic, fz_klst, fzs_eds, fzs_izs, fzs_nil, fzs_cons, takeArgs, refPos, refsOf, putBack, List.set_cons_zero, List.set_cons_succ, fz_int, fz_bl, fz_non])))
        refine ⟨_, by (unfold tupleX; simp only [clns_izs, if_true]) <;> rfl, ?_⟩
        (repeat (first | (refine Q.seq ?_) | (refine Q.asg ?_) | (refine Q.ret ?_) | (refine Q.drop ?_) | (refine Q.nxt ?_) | (refine Q.setB rfl ?_) | (refine Q.val (by rfl) (by first | rfl | (simp only [cln_tup, cln_lst, clns_cons, clns_nil, clns_izs, clns_eds, cln_edge, cln_int, cln_klst, cln_web, Bool.and_self, Bool.not_false, Bool.and_true, Bool.true_and]; first | done | fail)) ?_) | (refine Q.valv (by rfl) ?_) | (refine Q.takeI (by rfl) ?_) | (refine Q.consA ?_) | (refine Q.consO ?_) | (refine Q.nilO ?_) | (refine Q.nilP ?_) | (refine Q.tupM ?_) | (refine Q.lstM ?_) | (refine Q.dicE ?_) | (refine Q.call ?_) | (refine Q.refA (by rfl) ?_) | (refine Q.subI (by rfl) ?_) | (refine Q.valA ?_) | (refine Q.nilA ?_) | (refine Q.op2 ?_) | (refine Q.un ?_) | (refine Q.callA ?_) | (refine Q.callS ?_) | (refine Q.forS ?_) | (refine Q.iter ?_) | (refine Q.rng1 ?_) | (refine Q.rng2 ?_) | (refine Q.gtup rfl ?_) | (refine Q.gcons ?_) | (refine Q.gnil ?_) | (refine Q.put0 (by rfl) ?_) | (refine retK_rt (by rfl) ?_) | (refine ⟨Nat.le_of_ble_eq_true rfl, ?_⟩) | (refine ⟨_, rfl, big_ok (by omega) (by omega), ?_⟩) | (refine ⟨_, _, rfl, Bool.and_eq_true_iff.mpr ⟨big_ok (by omega) (by omega), big_ok (by omega) (by omega)⟩, ?_⟩) | (refine Q.truP ?_) | (refine Q.mbl ?_) | (refine Q.mtru ?_) | (refine Q.mnot ?_) | (refine Q.mor ?_) | (refine Q.mand ?_) | (refine ⟨by rfl, _, _, by rfl, ?_⟩) | (refine ⟨_, _, _, by rfl, by rfl, ?_⟩) | (refine ew_add ?_) | (refine ey_add ?_) | (refine ew_ii (by first | rfl | exact decide_eq_true (by omega) | exact cMul_l (by omega) (by omega) | exact cMul_r (by omega) (by omega)) ?_) | (refine ew_mul (by first | rfl | exact cMul_l (by omega) (by omega) | exact cMul_r (by omega) (by omega)) ?_) | (refine ey_ii (by first | rfl | exact decide_eq_true (by omega) | exact cMul_l (by omega) (by omega) | exact cMul_r (by omega) (by omega)) ?_) | (refine ey_mul (by first | rfl | exact cMul_l (by omega) (by omega) | exact cMul_r (by omega) (by omega)) ?_) | (refine ew_neg ?_) | (refine ey_neg ?_) | (refine ew_iB ?_) | (refine ey_iB ?_) | (refine ⟨_, by rfl, ?_⟩) | (refine ⟨(show List.length _ = _ from rfl), ?_⟩) | (simp only [wip, resto, List.getElem?_cons_zero, List.getElem?_cons_succ, Option.join_some, Option.join_none, Int.reduceToNat, seqK_nx, seqK_rt, turnK_nx, turnK_ct, maxI_eq, minI_eq, izs_len, fz_tup, fz_web, fz_lst, fz_dic, fz_klst, fzs_eds, fzs_izs, fzs_nil, fzs_cons, takeArgs, refPos, refsOf, putBack, List.set_cons_zero, List.set_cons_succ, fz_int, fz_bl, fz_non])))
        refine (is_hueing_ok he (by omega) (by omega)).imp ?_
        rintro _ _ ⟨rfl, rfl⟩
        (repeat (first | (refine Q.seq ?_) | (refine Q.asg ?_) | (refine Q.ret ?_) | (refine Q.drop ?_) | (refine Q.nxt ?_) | (refine Q.setB rfl ?_) | (refine Q.val (by rfl) (by first | rfl | (simp only [cln_tup, cln_lst, clns_cons, clns_nil, clns_izs, clns_eds, cln_edge, cln_int, cln_klst, cln_web, Bool.and_self, Bool.not_false, Bool.and_true, Bool.true_and]; first | done | fail)) ?_) | (refine Q.valv (by rfl) ?_) | (refine Q.takeI (by rfl) ?_) | (refine Q.consA ?_) | (refine Q.consO ?_) | (refine Q.nilO ?_) | (refine Q.nilP ?_) | (refine Q.tupM ?_) | (refine Q.lstM ?_) | (refine Q.dicE ?_) | (refine Q.call ?_) | (refine Q.refA (by rfl) ?_) | (refine Q.subI (by rfl) ?_) | (refine Q.valA ?_) | (refine Q.nilA ?_) | (refine Q.op2 ?_) | (refine Q.un ?_) | (refine Q.callA ?_) | (refine Q.callS ?_) | (refine Q.forS ?_) | (refine Q.iter ?_) | (refine Q.rng1 ?_) | (refine Q.rng2 ?_) | (refine Q.gtup rfl ?_) | (refine Q.gcons ?_) | (refine Q.gnil ?_) | (refine Q.put0 (by rfl) ?_) | (refine retK_rt (by rfl) ?_) | (refine ⟨Nat.le_of_ble_eq_true rfl, ?_⟩) | (refine ⟨_, rfl, big_ok (by omega) (by omega), ?_⟩) | (refine ⟨_, _, rfl, Bool.and_eq_true_iff.mpr ⟨big_ok (by omega) (by omega), big_ok (by omega) (by omega)⟩, ?_⟩) | (refine Q.truP ?_) | (refine Q.mbl ?_) | (refine Q.mtru ?_) | (refine Q.mnot ?_) | (refine Q.mor ?_) | (refine Q.mand ?_) | (refine ⟨by rfl, _, _, by rfl, ?_⟩) | (refine ⟨_, _, _, by rfl, by rfl, ?_⟩) | (refine ew_add ?_) | (refine ey_add ?_) | (refine ew_ii (by first | rfl | exact decide_eq_true (by omega) | exact cMul_l (by omega) (by omega) | exact cMul_r (by omega) (by omega)) ?_) | (refine ew_mul (by first | rfl | exact cMul_l (by omega) (by omega) | exact cMul_r (by omega) (by omega)) ?_) | (refine ey_ii (by first | rfl | exact decide_eq_true (by omega) | exact cMul_l (by omega) (by omega) | exact cMul_r (by omega) (by omega)) ?_) | (refine ey_mul (by first | rfl | exact cMul_l (by omega) (by omega) | exact cMul_r (by omega) (by omega)) ?_) | (refine ew_neg ?_) | (refine ey_neg ?_) | (refine ew_iB ?_) | (refine ey_iB ?_) | (refine ⟨_, by rfl, ?_⟩) | (refine ⟨(show List.length _ = _ from rfl), ?_⟩) | (simp only [wip, resto, List.getElem?_cons_zero, List.getElem?_cons_succ, Option.join_some, Option.join_none, Int.reduceToNat, seqK_nx, seqK_rt, turnK_nx, turnK_ct, maxI_eq, minI_eq, izs_len, fz_tup, fz_web, fz_lst, fz_dic, fz_klst, fzs_eds, fzs_izs, fzs_nil, fzs_cons, takeArgs, refPos, refsOf, putBack, List.set_cons_zero, List.set_cons_succ, fz_int, fz_bl, fz_non])))
        refine Q.ifC false [some (.klst (izs ns)), some (.int (0 + (i : Int))), some p3, some (.int kind), some (.int k), some (webD n es), some (.lst false (izs hs')), some (.int many), some (.bl (hueB n es many hs'))] ?_ (fun hc => ?_) (fun hc => ?_)
        · (repeat (first | (refine Q.seq ?_) | (refine Q.asg ?_) | (refine Q.ret ?_) | (refine Q.drop ?_) | (refine Q.nxt ?_) | (refine Q.setB rfl ?_) | (refine Q.val (by rfl) (by first | rfl | (simp only [cln_tup, cln_lst, clns_cons, clns_nil, clns_izs, clns_eds, cln_edge, cln_int, cln_klst, cln_web, Bool.and_self, Bool.not_false, Bool.and_true, Bool.true_and]; first | done | fail)) ?_) | (refine Q.valv (by rfl) ?_) | (refine Q.takeI (by rfl) ?_) | (refine Q.consA ?_) | (refine Q.consO ?_) | (refine Q.nilO ?_) | (refine Q.nilP ?_) | (refine Q.tupM ?_) | (refine Q.lstM ?_) | (refine Q.dicE ?_) | (refine Q.call ?_) | (refine Q.refA (by rfl) ?_) | (refine Q.subI (by rfl) ?_) | (refine Q.valA ?_) | (refine Q.nilA ?_) | (refine Q.op2 ?_) | (refine Q.un ?_) | (refine Q.callA ?_) | (refine Q.callS ?_) | (refine Q.forS ?_) | (refine Q.iter ?_) | (refine Q.rng1 ?_) | (refine Q.rng2 ?_) | (refine Q.gtup rfl ?_) | (refine Q.gcons ?_) | (refine Q.gnil ?_) | (refine Q.put0 (by rfl) ?_) | (refine retK_rt (by rfl) ?_) | (refine ⟨Nat.le_of_ble_eq_true rfl, ?_⟩) | (refine ⟨_, rfl, big_ok (by omega) (by omega), ?_⟩) | (refine ⟨_, _, rfl, Bool.and_eq_true_iff.mpr ⟨big_ok (by omega) (by omega), big_ok (by omega) (by omega)⟩, ?_⟩) | (refine Q.truP ?_) | (refine Q.mbl ?_) | (refine Q.mtru ?_) | (refine Q.mnot ?_) | (refine Q.mor ?_) | (refine Q.mand ?_) | (refine ⟨by rfl, _, _, by rfl, ?_⟩) | (refine ⟨_, _, _, by rfl, by rfl, ?_⟩) | (refine ew_add ?_) | (refine ey_add ?_) | (refine ew_ii (by first | rfl | exact decide_eq_true (by omega) | exact cMul_l (by omega) (by omega) | exact cMul_r (by omega) (by omega)) ?_) | (refine ew_mul (by first | rfl | exact cMul_l (by omega) (by omega) | exact cMul_r (by omega) (by omega)) ?_) | (refine ey_ii (by first | rfl | exact decide_eq_true (by omega) | exact cMul_l (by omega) (by omega) | exact cMul_r (by omega) (by omega)) ?_) | (refine ey_mul (by first | rfl | exact cMul_l (by omega) (by omega) | exact cMul_r (by omega) (by omega)) ?_) | (refine ew_neg ?_) | (refine ey_neg ?_) | (refine ew_iB ?_) | (refine ey_iB ?_) | (refine ⟨_, by rfl, ?_⟩) | (refine ⟨(show List.length _ = _ from rfl), ?_⟩) | (simp only [wip, resto, List.getElem?_cons_zero, List.getElem?_cons_succ, Option.join_some, Option.join_none, Int.reduceToNat, seqK_nx, seqK_rt, turnK_nx, turnK_ct, maxI_eq, minI_eq, izs_len, fz_tup, fz_web, fz_lst, fz_dic, fz_klst, fzs_eds, fzs_izs, fzs_nil, fzs_cons, takeArgs, refPos, refsOf, putBack, List.set_cons_zero, List.set_cons_succ, fz_int, fz_bl, fz_non])))
          refine (law_is_hueing_ok he (by omega) (by omega)).imp ?_
          rintro _ _ ⟨rfl, rfl⟩
          (repeat (first | (refine Q.seq ?_) | (refine Q.asg ?_) | (refine Q.ret ?_) | (refine Q.drop ?_) | (refine Q.nxt ?_) | (refine Q.setB rfl ?_) | (refine Q.val (by rfl) (by first | rfl | (simp only [cln_tup, cln_lst, clns_cons, clns_nil, clns_izs, clns_eds, cln_edge, cln_int, cln_klst, cln_web, Bool.and_self, Bool.not_false, Bool.and_true, Bool.true_and]; first | done | fail)) ?_) | (refine Q.valv (by rfl) ?_) | (refine Q.takeI (by rfl) ?_) | (refine Q.consA ?_) | (refine Q.consO ?_) | (refine Q.nilO ?_) | (refine Q.nilP ?_) | (refine Q.tupM ?_) | (refine Q.lstM ?_) | (refine Q.dicE ?_) | (refine Q.call ?_) | (refine Q.refA (by rfl) ?_) | (refine Q.subI (by rfl) ?_) | (refine Q.valA ?_) | (refine Q.nilA ?_) | (refine Q.op2 ?_) | (refine Q.un ?_) | (refine Q.callA ?_) | (refine Q.callS ?_) | (refine Q.forS ?_) | (refine Q.iter ?_) | (refine Q.rng1 ?_) | (refine Q.rng2 ?_) | (refine Q.gtup rfl ?_) | (refine Q.gcons ?_) | (refine Q.gnil ?_) | (refine Q.put0 (by rfl) ?_) | (refine retK_rt (by rfl) ?_) | (refine ⟨Nat.le_of_ble_eq_true rfl, ?_⟩) | (refine ⟨_, rfl, big_ok (by omega) (by omega), ?_⟩) | (refine ⟨_, _, rfl, Bool.and_eq_true_iff.mpr ⟨big_ok (by omega) (by omega), big_ok (by omega) (by omega)⟩, ?_⟩) | (refine Q.truP ?_) | (refine Q.mbl ?_) | (refine Q.mtru ?_) | (refine Q.mnot ?_) | (refine Q.mor ?_) | (refine Q.mand ?_) | (refine ⟨by rfl, _, _, by rfl, ?_⟩) | (refine ⟨_, _, _, by rfl, by rfl, ?_⟩) | (refine ew_add ?_) | (refine ey_add ?_) | (refine ew_ii (by first | rfl | exact decide_eq_true (by omega) | exact cMul_l (by omega) (by omega) | exact cMul_r (by omega) (by omega)) ?_) | (refine ew_mul (by first | rfl | exact cMul_l (by omega) (by omega) | exact cMul_r (by omega) (by omega)) ?_) | (refine ey_ii (by first | rfl | exact decide_eq_true (by omega) | exact cMul_l (by omega) (by omega) | exact cMul_r (by omega) (by omega)) ?_) | (refine ey_mul (by first | rfl | exact cMul_l (by omega) (by omega) | exact cMul_r (by omega) (by omega)) ?_) | (refine ew_neg ?_) | (refine ey_neg ?_) | (refine ew_iB ?_) | (refine ey_iB ?_) | (refine ⟨_, by rfl, ?_⟩) | (refine ⟨(show List.length _ = _ from rfl), ?_⟩) | (simp only [wip, resto, List.getElem?_cons_zero, List.getElem?_cons_succ, Option.join_some, Option.join_none, Int.reduceToNat, seqK_nx, seqK_rt, turnK_nx, turnK_ct, maxI_eq, minI_eq, izs_len, fz_tup, fz_web, fz_lst, fz_dic, fz_klst, fzs_eds, fzs_izs, fzs_nil, fzs_cons, takeArgs, refPos, refsOf, putBack, List.set_cons_zero, List.set_cons_succ, fz_int, fz_bl, fz_non])))
          exact ⟨by simp only [py, PyData.eqv, beq_self_eq_true, Bool.not_true], trivial⟩
        · cases hc
        · (repeat (first | (refine Q.seq ?_) | (refine Q.asg ?_) | (refine Q.ret ?_) | (refine Q.drop ?_) | (refine Q.nxt ?_) | (refine Q.setB rfl ?_) | (refine Q.val (by rfl) (by first | rfl | (simp only [cln_tup, cln_lst, clns_cons, clns_nil, clns_izs, clns_eds, cln_edge, cln_int, cln_klst, cln_web, Bool.and_self, Bool.not_false, Bool.and_true, Bool.true_and]; first | done | fail)) ?_) | (refine Q.valv (by rfl) ?_) | (refine Q.takeI (by rfl) ?_) | (refine Q.consA ?_) | (refine Q.consO ?_) | (refine Q.nilO ?_) | (refine Q.nilP ?_) | (refine Q.tupM ?_) | (refine Q.lstM ?_) | (refine Q.dicE ?_) | (refine Q.call ?_) | (refine Q.refA (by rfl) ?_) | (refine Q.subI (by rfl) ?_) | (refine Q.valA ?_) | (refine Q.nilA ?_) | (refine Q.op2 ?_) | (refine Q.un ?_) | (refine Q.callA ?_) | (refine Q.callS ?_) | (refine Q.forS ?_) | (refine Q.iter ?_) | (refine Q.rng1 ?_) | (refine Q.rng2 ?_) | (refine Q.gtup rfl ?_) | (refine Q.gcons ?_) | (refine Q.gnil ?_) | (refine Q.put0 (by rfl) ?_) | (refine retK_rt (by rfl) ?_) | (refine ⟨Nat.le_of_ble_eq_true rfl, ?_⟩) | (refine ⟨_, rfl, big_ok (by omega) (by omega), ?_⟩) | (refine ⟨_, _, rfl, Bool.and_eq_true_iff.mpr ⟨big_ok (by omega) (by omega), big_ok (by omega) (by omega)⟩, ?_⟩) | (refine Q.truP ?_) | (refine Q.mbl ?_) | (refine Q.mtru ?_) | (refine Q.mnot ?_) | (refine Q.mor ?_) | (refine Q.mand ?_) | (refine ⟨by rfl, _, _, by rfl, ?_⟩) | (refine ⟨_, _, _, by rfl, by rfl, ?_⟩) | (refine ew_add ?_) | (refine ey_add ?_) | (refine ew_ii (by first | rfl | exact decide_eq_true (by omega) | exact cMul_l (by omega) (by omega) | exact cMul_r (by omega) (by omega)) ?_) | (refine ew_mul (by first | rfl | exact cMul_l (by omega) (by omega) | exact cMul_r (by omega) (by omega)) ?_) | (refine ey_ii (by first | rfl | exact decide_eq_true (by omega) | exact cMul_l (by omega) (by omega) | exact cMul_r (by omega) (by omega)) ?_) | (refine ey_mul (by first | rfl | exact cMul_l (by omega) (by omega) | exact cMul_r (by omega) (by omega)) ?_) | (refine ew_neg ?_) | (refine ey_neg ?_) | (refine ew_iB ?_) | (refine ey_iB ?_) | (refine ⟨_, by rfl, ?_⟩) | (refine ⟨(show List.length _ = _ from rfl), ?_⟩) | (simp only [wip, resto, List.getElem?_cons_zero, List.getElem?_cons_succ, Option.join_some, Option.join_none, Int.reduceToNat, seqK_nx, seqK_rt, turnK_nx, turnK_ct, maxI_eq, minI_eq, izs_len, fz_tup, fz_web, fz_lst, fz_dic, fz_klst, fzs_eds, fzs_izs, fzs_nil, fzs_cons, takeArgs, refPos, refsOf, putBack, List.set_cons_zero, List.set_cons_succ, fz_int, fz_bl, fz_non])))
          exact ⟨_, _, _, rfl⟩
      · rintro Γ ⟨o, b1, b2, rfl⟩
        (repeat (first | (refine Q.seq ?_) | (refine Q.asg ?_) | (refine Q.ret ?_) | (refine Q.drop ?_) | (refine Q.nxt ?_) | (refine Q.setB rfl ?_) | (refine Q.val (by rfl) (by first | rfl | (simp only [cln_tup, cln_lst, clns_cons, clns_nil, clns_izs, clns_eds, cln_edge, cln_int, cln_klst, cln_web, Bool.and_self, Bool.not_false, Bool.and_true, Bool.true_and]; first | done | fail)) ?_) | (refine Q.valv (by rfl) ?_) | (refine Q.takeI (by rfl) ?_) | (refine Q.consA ?_) | (refine Q.consO ?_) | (refine Q.nilO ?_) | (refine Q.nilP ?_) | (refine Q.tupM ?_) | (refine Q.lstM ?_) | (refine Q.dicE ?_) | (refine Q.call ?_) | (refine Q.refA (by rfl) ?_) | (refine Q.subI (by rfl) ?_) | (refine Q.valA ?_) | (refine Q.nilA ?_) | (refine Q.op2 ?_) | (refine Q.un ?_) | (refine Q.callA ?_) | (refine Q.callS ?_) | (refine Q.forS ?_) | (refine Q.iter ?_) | (refine Q.rng1 ?_) | (refine Q.rng2 ?_) | (refine Q.gtup rfl ?_) | (refine Q.gcons ?_) | (refine Q.gnil ?_) | (refine Q.put0 (by rfl) ?_) | (refine retK_rt (by rfl) ?_) | (refine ⟨Nat.le_of_ble_eq_true rfl, ?_⟩) | (refine ⟨_, rfl, big_ok (by omega) (by omega), ?_⟩) | (refine ⟨_, _, rfl, Bool.and_eq_true_iff.mpr ⟨big_ok (by omega) (by omega), big_ok (by omega) (by omega)⟩, ?_⟩) | (refine Q.truP ?_) | (refine Q.mbl ?_) | (refine Q.mtru ?_) | (refine Q.mnot ?_) | (refine Q.mor ?_) | (refine Q.mand ?_) | (refine ⟨by rfl, _, _, by rfl, ?_⟩) | (refine ⟨_, _, _, by rfl, by rfl, ?_⟩) | (refine ew_add ?_) | (refine ey_add ?_) | (refine ew_ii (by first | rfl | exact decide_eq_true (by omega) | exact cMul_l (by omega) (by omega) | exact cMul_r (by omega) (by omega)) ?_) | (refine ew_mul (by first | rfl | exact cMul_l (by omega) (by omega) | exact cMul_r (by omega) (by omega)) ?_) | (refine ey_ii (by first | rfl | exact decide_eq_true (by omega) | exact cMul_l (by omega) (by omega) | exact cMul_r (by omega) (by omega)) ?_) | (refine ey_mul (by first | rfl | exact cMul_l (by omega) (by omega) | exact cMul_r (by omega) (by omega)) ?_) | (refine ew_neg ?_) | (refine ey_neg ?_) | (refine ew_iB ?_) | (refine ey_iB ?_) | (refine ⟨_, by rfl, ?_⟩) | (refine ⟨(show List.length _ = _ from rfl), ?_⟩) | (simp only [wip, resto, List.getElem?_cons_zero, List.getElem?_cons_succ, Option.join_some, Option.join_none, Int.reduceToNat, seqK_nx, seqK_rt, turnK_nx, turnK_ct, maxI_eq, minI_eq, izs_len, fz_tup, fz_web, fz_lst, fz_dic, fz_klst, fzs_eds, fzs_izs, fzs_nil, fzs_cons, takeArgs, refPos, refsOf, putBack, List.set_cons_zero, List.set_cons_succ, fz_int, fz_bl, fz_non])))
        exact ⟨_, _, _, _, _, _, _, _, rfl⟩
    · rintro Γ ⟨a1, a2, a3, a4, a5, a6, a7, a8, rfl⟩
      (repeat (first | (refine Q.seq ?_) | (refine Q.asg ?_) | (refine Q.ret ?_) | (refine Q.drop ?_) | (refine Q.nxt ?_) | (refine Q.setB rfl ?_) | (refine Q.val (by rfl) (by first | rfl | (simp only [cln_tup, cln_lst, clns_cons, clns_nil, clns_izs, clns_eds, cln_edge, cln_int, cln_klst, cln_web, Bool.and_self, Bool.not_false, Bool.and_true, Bool.true_and]; first | done | fail)) ?_) | (refine Q.valv (by rfl) ?_) | (refine Q.takeI (by rfl) ?_) | (refine Q.consA ?_) | (refine Q.consO ?_) | (refine Q.nilO ?_) | (refine Q.nilP ?_) | (refine Q.tupM ?_) | (refine Q.lstM ?_) | (refine Q.dicE ?_) | (refine Q.call ?_) | (refine Q.refA (by rfl) ?_) | (refine Q.subI (by rfl) ?_) | (refine Q.valA ?_) | (refine Q.nilA ?_) | (refine Q.op2 ?_) | (refine Q.un ?_) | (refine Q.callA ?_) | (refine Q.callS ?_) | (refine Q.forS ?_) | (refine Q.iter ?_) | (refine Q.rng1 ?_) | (refine Q.rng2 ?_) | (refine Q.gtup rfl ?_) | (refine Q.gcons ?_) | (refine Q.gnil ?_) | (refine Q.put0 (by rfl) ?_) | (refine retK_rt (by rfl) ?_) | (refine ⟨Nat.le_of_ble_eq_true rfl, ?_⟩) | (refine ⟨_, rfl, big_ok (by omega) (by omega), ?_⟩) | (refine ⟨_, _, rfl, Bool.and_eq_true_iff.mpr ⟨big_ok (by omega) (by omega), big_ok (by omega) (by omega)⟩, ?_⟩) | (refine Q.truP ?_) | (refine Q.mbl ?_) | (refine Q.mtru ?_) | (refine Q.mnot ?_) | (refine Q.mor ?_) | (refine Q.mand ?_) | (refine ⟨by rfl, _, _, by rfl, ?_⟩) | (refine ⟨_, _, _, by rfl, by rfl, ?_⟩) | (refine ew_add ?_) | (refine ey_add ?_) | (refine ew_ii (by first | rfl | exact decide_eq_true (by omega) | exact cMul_l (by omega) (by omega) | exact cMul_r (by omega) (by omega)) ?_) | (refine ew_mul (by first | rfl | exact cMul_l (by omega) (by omega) | exact cMul_r (by omega) (by omega)) ?_) | (refine ey_ii (by first | rfl | exact decide_eq_true (by omega) | exact cMul_l (by omega) (by omega) | exact cMul_r (by omega) (by omega)) ?_) | (refine ey_mul (by first | rfl | exact cMul_l (by omega) (by omega) | exact cMul_r (by omega) (by omega)) ?_) | (refine ew_neg ?_) | (refine ey_neg ?_) | (refine ew_iB ?_) | (refine ey_iB ?_) | (refine ⟨_, by rfl, ?_⟩) | (refine ⟨(show List.length _ = _ from rfl), ?_⟩) | (simp only [wip, resto, List.getElem?_cons_zero, List.getElem?_cons_succ, Option.join_some, Option.join_none, Int.reduceToNat, seqK_nx, seqK_rt, turnK_nx, turnK_ct, maxI_eq, minI_eq, izs_len, fz_tup, fz_web, fz_lst, fz_dic, fz_klst, fzs_eds, fzs_izs, fzs_nil, fzs_cons, takeArgs, refPos, refsOf, putBack, List.set_cons_zero, List.set_cons_succ, fz_int, fz_bl, fz_non])))
      exact ⟨trivial, trivial⟩
  obtain ⟨r, os, e, rfl, rfl⟩ := main
  exact e
end K59

namespace K59
open PySem L2 PX PyProof.Rows PySem.Spec
theorem all_mk {l : PySem.W.OpenLaw} {w : World} {K : PySem.W.Frag} {h : Heap} {mg : Str → Option Value} {fa f_law_draw f_law_any_web f_law_near f_law_hued f_law_is_hueing f_law_pen f_law_spoilt f_is_hueing f_law : Addr} (X : K.In h) (G : h.Ns mainGlobals mg) (hfa : mg "law" = some (.ref fa))
    {od_law_draw an_law_draw : Option Addr} {sl_law_draw : Array (Option Value)} {oc_law_draw kV_law_draw dc_law_draw pm_law_draw cd_law_draw ct_law_draw : Value}
    {od_law_any_web an_law_any_web : Option Addr} {sl_law_any_web : Array (Option Value)} {oc_law_any_web kV_law_any_web dc_law_any_web pm_law_any_web cd_law_any_web ct_law_any_web : Value}
    {od_law_near an_law_near : Option Addr} {sl_law_near : Array (Option Value)} {oc_law_near kV_law_near dc_law_near pm_law_near cd_law_near ct_law_near : Value}
    {od_law_hued an_law_hued : Option Addr} {sl_law_hued : Array (Option Value)} {oc_law_hued kV_law_hued dc_law_hued pm_law_hued cd_law_hued ct_law_hued : Value}
    {od_law_is_hueing an_law_is_hueing : Option Addr} {sl_law_is_hueing : Array (Option Value)} {oc_law_is_hueing kV_law_is_hueing dc_law_is_hueing pm_law_is_hueing cd_law_is_hueing ct_law_is_hueing : Value}
    {od_law_pen an_law_pen : Option Addr} {sl_law_pen : Array (Option Value)} {oc_law_pen kV_law_pen dc_law_pen pm_law_pen cd_law_pen ct_law_pen : Value}
    {od_law_spoilt an_law_spoilt : Option Addr} {sl_law_spoilt : Array (Option Value)} {oc_law_spoilt kV_law_spoilt dc_law_spoilt pm_law_spoilt cd_law_spoilt ct_law_spoilt : Value}
    {od_is_hueing an_is_hueing : Option Addr} {sl_is_hueing : Array (Option Value)} {oc_is_hueing kV_is_hueing dc_is_hueing pm_is_hueing cd_is_hueing ct_is_hueing : Value}
    {od_law an_law : Option Addr} {sl_law : Array (Option Value)} {oc_law kV_law dc_law pm_law cd_law ct_law : Value}
    (a_law_draw : PySem.W.nsIn K mainGlobals "_law_draw" = some (some (.ref f_law_draw))) (l_law_draw : K.lookup f_law_draw = some ⟨oc_law_draw, od_law_draw, .func (PySem.W.fnOf "_law_draw" "_law_draw" (defArgs s_law_draw) (defBody s_law_draw) (defScope s_law_draw) .none kV_law_draw dc_law_draw pm_law_draw an_law_draw cd_law_draw ct_law_draw), sl_law_draw⟩) (c_law_draw : PySem.W.codeIn K cd_law_draw "_law_draw" = true) (k_law_draw : PySem.W.keepIn K (.ref f_law_draw) = true)
    (a_law_any_web : PySem.W.nsIn K mainGlobals "_law_any_web" = some (some (.ref f_law_any_web))) (l_law_any_web : K.lookup f_law_any_web = some ⟨oc_law_any_web, od_law_any_web, .func (PySem.W.fnOf "_law_any_web" "_law_any_web" (defArgs s_law_any_web) (defBody s_law_any_web) (defScope s_law_any_web) .none kV_law_any_web dc_law_any_web pm_law_any_web an_law_any_web cd_law_any_web ct_law_any_web), sl_law_any_web⟩) (c_law_any_web : PySem.W.codeIn K cd_law_any_web "_law_any_web" = true) (k_law_any_web : PySem.W.keepIn K (.ref f_law_any_web) = true)
    (a_law_near : PySem.W.nsIn K mainGlobals "_law_near" = some (some (.ref f_law_near))) (l_law_near : K.lookup f_law_near = some ⟨oc_law_near, od_law_near, .func (PySem.W.fnOf "_law_near" "_law_near" (defArgs s_law_near) (defBody s_law_near) (defScope s_law_near) .none kV_law_near dc_law_near pm_law_near an_law_near cd_law_near ct_law_near), sl_law_near⟩) (c_law_near : PySem.W.codeIn K cd_law_near "_law_near" = true) (k_law_near : PySem.W.keepIn K (.ref f_law_near) = true)
    (a_law_hued : PySem.W.nsIn K mainGlobals "_law_hued" = some (some (.ref f_law_hued))) (l_law_hued : K.lookup f_law_hued = some ⟨oc_law_hued, od_law_hued, .func (PySem.W.fnOf "_law_hued" "_law_hued" (defArgs s_law_hued) (defBody s_law_hued) (defScope s_law_hued) .none kV_law_hued dc_law_hued pm_law_hued an_law_hued cd_law_hued ct_law_hued), sl_law_hued⟩) (c_law_hued : PySem.W.codeIn K cd_law_hued "_law_hued" = true) (k_law_hued : PySem.W.keepIn K (.ref f_law_hued) = true)
    (a_law_is_hueing : PySem.W.nsIn K mainGlobals "_law_is_hueing" = some (some (.ref f_law_is_hueing))) (l_law_is_hueing : K.lookup f_law_is_hueing = some ⟨oc_law_is_hueing, od_law_is_hueing, .func (PySem.W.fnOf "_law_is_hueing" "_law_is_hueing" (defArgs s_law_is_hueing) (defBody s_law_is_hueing) (defScope s_law_is_hueing) .none kV_law_is_hueing dc_law_is_hueing pm_law_is_hueing an_law_is_hueing cd_law_is_hueing ct_law_is_hueing), sl_law_is_hueing⟩) (c_law_is_hueing : PySem.W.codeIn K cd_law_is_hueing "_law_is_hueing" = true) (k_law_is_hueing : PySem.W.keepIn K (.ref f_law_is_hueing) = true)
    (a_law_pen : PySem.W.nsIn K mainGlobals "_law_pen" = some (some (.ref f_law_pen))) (l_law_pen : K.lookup f_law_pen = some ⟨oc_law_pen, od_law_pen, .func (PySem.W.fnOf "_law_pen" "_law_pen" (defArgs s_law_pen) (defBody s_law_pen) (defScope s_law_pen) .none kV_law_pen dc_law_pen pm_law_pen an_law_pen cd_law_pen ct_law_pen), sl_law_pen⟩) (c_law_pen : PySem.W.codeIn K cd_law_pen "_law_pen" = true) (k_law_pen : PySem.W.keepIn K (.ref f_law_pen) = true)
    (a_law_spoilt : PySem.W.nsIn K mainGlobals "_law_spoilt" = some (some (.ref f_law_spoilt))) (l_law_spoilt : K.lookup f_law_spoilt = some ⟨oc_law_spoilt, od_law_spoilt, .func (PySem.W.fnOf "_law_spoilt" "_law_spoilt" (defArgs s_law_spoilt) (defBody s_law_spoilt) (defScope s_law_spoilt) .none kV_law_spoilt dc_law_spoilt pm_law_spoilt an_law_spoilt cd_law_spoilt ct_law_spoilt), sl_law_spoilt⟩) (c_law_spoilt : PySem.W.codeIn K cd_law_spoilt "_law_spoilt" = true) (k_law_spoilt : PySem.W.keepIn K (.ref f_law_spoilt) = true)
    (a_is_hueing : PySem.W.nsIn K mainGlobals "is_hueing" = some (some (.ref f_is_hueing))) (l_is_hueing : K.lookup f_is_hueing = some ⟨oc_is_hueing, od_is_hueing, .func (PySem.W.fnOf "is_hueing" "is_hueing" (defArgs s_is_hueing) (defBody s_is_hueing) (defScope s_is_hueing) .none kV_is_hueing dc_is_hueing pm_is_hueing an_is_hueing cd_is_hueing ct_is_hueing), sl_is_hueing⟩) (c_is_hueing : PySem.W.codeIn K cd_is_hueing "is_hueing" = true) (k_is_hueing : PySem.W.keepIn K (.ref f_is_hueing) = true)
    (a_law : PySem.W.nsIn K mainGlobals "law" = some (some (.ref f_law))) (l_law : K.lookup f_law = some ⟨oc_law, od_law, .func (PySem.W.fnOf "law" "law" (defArgs s_law) (defBody s_law) (defScope s_law) .none kV_law dc_law pm_law an_law cd_law ct_law), sl_law⟩) (c_law : PySem.W.codeIn K cd_law "law" = true) (k_law : PySem.W.keepIn K (.ref f_law) = true)
    (z_all : PySem.W.nsIn K mainGlobals "all" = some none) (z_bool : PySem.W.nsIn K mainGlobals "bool" = some none) (z_int : PySem.W.nsIn K mainGlobals "int" = some none) (z_isinstance : PySem.W.nsIn K mainGlobals "isinstance" = some none) (z_len : PySem.W.nsIn K mainGlobals "len" = some none) (z_list : PySem.W.nsIn K mainGlobals "list" = some none) (z_max : PySem.W.nsIn K mainGlobals "max" = some none) (z_min : PySem.W.nsIn K mainGlobals "min" = some none) (z_range : PySem.W.nsIn K mainGlobals "range" = some none) (z_sorted : PySem.W.nsIn K mainGlobals "sorted" = some none) (z_tuple : PySem.W.nsIn K mainGlobals "tuple" = some none)
    : ∃ fd : FuncData, (∀ (s : Shared) (v : Value), BindsTo s fd ⟨[v], []⟩ [("script", v)]) ∧ ∀ base : Heap, K.In base → base.Ns mainGlobals mg → FnOk l.prog w K mg base CX0 3 fa fd ["script"] (spLaw 63 K) := by
  have e := hfa.symm.trans (PySem.W.mg_of X G a_law)
  cases e
  have T : Txt mg := ⟨PySem.W.mg_none_of X G z_all, PySem.W.mg_none_of X G z_bool, PySem.W.mg_none_of X G z_int, PySem.W.mg_none_of X G z_isinstance, PySem.W.mg_none_of X G z_len, PySem.W.mg_none_of X G z_list, PySem.W.mg_none_of X G z_max, PySem.W.mg_none_of X G z_min, PySem.W.mg_none_of X G z_range, PySem.W.mg_none_of X G z_sorted, PySem.W.mg_none_of X G z_tuple⟩
  let cl : Clss := fun _ => 0
  have F_law_draw := fun_mk (st := s_law_draw) l_law_draw c_law_draw k_law_draw
  have F_law_any_web := fun_mk (st := s_law_any_web) l_law_any_web c_law_any_web k_law_any_web
  have F_law_near := fun_mk (st := s_law_near) l_law_near c_law_near k_law_near
  have F_law_hued := fun_mk (st := s_law_hued) l_law_hued c_law_hued k_law_hued
  have F_law_is_hueing := fun_mk (st := s_law_is_hueing) l_law_is_hueing c_law_is_hueing k_law_is_hueing
  have F_law_pen := fun_mk (st := s_law_pen) l_law_pen c_law_pen k_law_pen
  have F_law_spoilt := fun_mk (st := s_law_spoilt) l_law_spoilt c_law_spoilt k_law_spoilt
  have F_is_hueing := fun_mk (st := s_is_hueing) l_is_hueing c_is_hueing k_is_hueing
  have F_law := fun_mk (st := s_law) l_law c_law k_law
  refine ⟨PySem.W.fnOf "law" "law" (defArgs s_law) (defBody s_law) (defScope s_law) .none kV_law dc_law pm_law an_law cd_law ct_law, fun s v => .of_eq rfl, fun base _ _ => ?_⟩
  have K_law_draw : Is_law_draw l.prog w K mg base cl := ⟨_, _, ok_law_draw F_law_draw T , PySem.W.mg_of X G a_law_draw, k_law_draw, F_law_draw.binds (ps := P_law_draw) fun _ _ _ _ _ _ us hl => match us, hl with | [_, _], _ => rfl⟩
  have K_law_any_web : Is_law_any_web l.prog w K mg base cl := ⟨_, _, ok_law_any_web F_law_any_web T K_law_draw, PySem.W.mg_of X G a_law_any_web, k_law_any_web, F_law_any_web.binds (ps := P_law_any_web) fun _ _ _ _ _ _ us hl => match us, hl with | [_, _], _ => rfl⟩
  have K_law_near : Is_law_near l.prog w K mg base cl := ⟨_, _, ok_law_near F_law_near T , PySem.W.mg_of X G a_law_near, k_law_near, F_law_near.binds (ps := P_law_near) fun _ _ _ _ _ _ us hl => match us, hl with | [_], _ => rfl⟩
  have K_law_hued : Is_law_hued l.prog w K mg base cl := ⟨_, _, ok_law_hued F_law_hued T K_law_draw K_law_near, PySem.W.mg_of X G a_law_hued, k_law_hued, F_law_hued.binds (ps := P_law_hued) fun _ _ _ _ _ _ us hl => match us, hl with | [_, _, _], _ => rfl⟩
  have K_law_is_hueing : Is_law_is_hueing l.prog w K mg base cl := ⟨_, _, ok_law_is_hueing F_law_is_hueing T , PySem.W.mg_of X G a_law_is_hueing, k_law_is_hueing, F_law_is_hueing.binds (ps := P_law_is_hueing) fun _ _ _ _ _ _ us hl => match us, hl with | [_, _, _], _ => rfl⟩
  have K_law_pen : Is_law_pen l.prog w K mg base cl := ⟨_, _, ok_law_pen F_law_pen T , PySem.W.mg_of X G a_law_pen, k_law_pen, F_law_pen.binds (ps := P_law_pen) fun _ _ _ _ _ _ us hl => match us, hl with | [_, _], _ => rfl⟩
  have K_law_spoilt : Is_law_spoilt l.prog w K mg base cl := ⟨_, _, ok_law_spoilt F_law_spoilt T K_law_draw K_law_near, PySem.W.mg_of X G a_law_spoilt, k_law_spoilt, F_law_spoilt.binds (ps := P_law_spoilt) fun _ _ _ _ _ _ us hl => match us, hl with | [_, _, _, _, _], _ => rfl⟩
  have K_is_hueing : Is_is_hueing l.prog w K mg base cl := ⟨_, _, ok_is_hueing F_is_hueing T , PySem.W.mg_of X G a_is_hueing, k_is_hueing, F_is_hueing.binds (ps := P_is_hueing) fun _ _ _ _ _ _ us hl => match us, hl with | [_, _, _], _ => rfl⟩
  exact (ok_law F_law T K_law_any_web K_law_draw K_law_hued K_law_is_hueing K_law_pen K_law_spoilt K_is_hueing).imp fun vs H Q E s => law_sp lawmain s
theorem walk {l : PySem.W.OpenLaw} {q : Program} {loose : List Str} {XP : (Str → Option Value) → Heap → Prop} {YP : World → Heap → Prop} {d : DefRec} {K : Params → PySem.W.Frag} (hn : l.most = some 63) (hdf : d.params.defaults = [])
    (hY : ∀ (w : World) (h : Heap), YP w h → (K w.params).In h)
    (F : ∀ (w : World) (mg : Str → Option Value) (fa : Addr) (h : Heap), (K w.params).In h → h.Ns mainGlobals mg → mg d.name = some (.ref fa) →
      ∃ fd : FuncData, (∀ (s : Shared) (u : Value), BindsTo s fd ⟨[u], []⟩ [("script", u)]) ∧ ∀ base : Heap, (K w.params).In base → base.Ns mainGlobals mg → FnOk l.prog w (K w.params) mg base CX0 3 fa fd ["script"] (spLaw 63 (K w.params))) :
    PySem.W.WalkO q loose XP YP l.row.toRowW d [] (fun f vs => PySem.call f vs) :=
  L2.walk_of (n := 63) (k := 3) (x := "script") (CX := fun _ => CX0) (sp := fun w => spLaw 63 (K w.params)) hn (by decide) hdf ⟨rfl, by decide, by decide⟩ hY F (fun _ _ a ns hl _ hS => ⟨a, ns, rfl, hS, hl, fun _ => rfl⟩) fun _ _ _ _ _ z => z
end K59
open PySem PySem.W PyProof.Rows
set_option maxHeartbeats 0 in
theorem PySem.Challenge.cw_partwood_k59_hueings_looked_at_holds : PySem.Challenge.rw_partwood_k59_hueings_looked_at.Holds := by
  w_on; o_law; k_head; (case hw => w_witness2)
  k_fill
  refine K59.walk (l := PySem.Challenge.rw_partwood_k59_hueings_looked_at) rfl rfl (fun w h Y => PySem.W.kIn_of Y) ?F
  case F =>
    intro w mg fa h KX G hmg
    refine' K59.all_mk KX G hmg ?a_law_draw ?l_law_draw ?c_law_draw ?k_law_draw ?a_law_any_web ?l_law_any_web ?c_law_any_web ?k_law_any_web ?a_law_near ?l_law_near ?c_law_near ?k_law_near ?a_law_hued ?l_law_hued ?c_law_hued ?k_law_hued ?a_law_is_hueing ?l_law_is_hueing ?c_law_is_hueing ?k_law_is_hueing ?a_law_pen ?l_law_pen ?c_law_pen ?k_law_pen ?a_law_spoilt ?l_law_spoilt ?c_law_spoilt ?k_law_spoilt ?a_is_hueing ?l_is_hueing ?c_is_hueing ?k_is_hueing ?a_law ?l_law ?c_law ?k_law ?z_all ?z_bool ?z_int ?z_isinstance ?z_len ?z_list ?z_max ?z_min ?z_range ?z_sorted ?z_tuple
    (case a_law_draw => k_is)
    (case l_law_draw => k_is)
    (case c_law_draw => k_is)
    (case k_law_draw => k_is)
    (case a_law_any_web => k_is)
    (case l_law_any_web => k_is)
    (case c_law_any_web => k_is)
    (case k_law_any_web => k_is)
    (case a_law_near => k_is)
    (case l_law_near => k_is)
    (case c_law_near => k_is)
    (case k_law_near => k_is)
    (case a_law_hued => k_is)
    (case l_law_hued => k_is)
    (case c_law_hued => k_is)
    (case k_law_hued => k_is)
    (case a_law_is_hueing => k_is)
    (case l_law_is_hueing => k_is)
    (case c_law_is_hueing => k_is)
    (case k_law_is_hueing => k_is)
    (case a_law_pen => k_is)
    (case l_law_pen => k_is)
    (case c_law_pen => k_is)
    (case k_law_pen => k_is)
    (case a_law_spoilt => k_is)
    (case l_law_spoilt => k_is)
    (case c_law_spoilt => k_is)
    (case k_law_spoilt => k_is)
    (case a_is_hueing => k_is)
    (case l_is_hueing => k_is)
    (case c_is_hueing => k_is)
    (case k_is_hueing => k_is)
    (case a_law => k_is)
    (case l_law => k_is)
    (case c_law => k_is)
    (case k_law => k_is)
    (case z_all => k_is)
    (case z_bool => k_is)
    (case z_int => k_is)
    (case z_isinstance => k_is)
    (case z_len => k_is)
    (case z_list => k_is)
    (case z_max => k_is)
    (case z_min => k_is)
    (case z_range => k_is)
    (case z_sorted => k_is)
    (case z_tuple => k_is)

