import PyProof.Rows.All
import Wide.All
import OpenK.AllK
import Wide.FinOn
import HandS.ForMost
import HandS.ForExc
import HandS.Wide
import HandS.IsInst
import HandS.EndBits
import HandS.TryElse
import HandS.ExcIs
import HandS.Deep
import HandS.Evl
import HandS.Head0
import HandS.Head1
import HandS.Head2
import HandS.HeadEnd
import HandS.HeadHook1
import HandS.HeadHook2
import HandS.TupAny
import HandS.TupMul
import HandS.Conv
import HandS.Zip
import HandS.Flt
import KE.DataEq
import HandS.TryOnly
import HandS.TupLe
import HandS.Style
import HandS.SortInts
import KE.DataMinMax
import KE.SortData
import HandS.More
import PyProof.WalksMore
import HandS.TupSets
import PySem.Challenge.RW_ullage_k72_blocks_of_nodes
set_option Elab.async false
set_option linter.all false
set_option maxRecDepth 100000
set_option maxHeartbeats 4000000
/-! U: programs over values. D: a value as data; Fr: what of it is new and its holder's own; Rep, RF: how a heap bears it; SE, SS: an expression, a statement does what its function on values says. -/
namespace U
open PySem L2
open Evl (Ex)

inductive D where
  | non | bl (b : Bool) | int (i : Int) | str (s : Str)
  | lst (xs : List D) | tup (xs : List D)
  | scr (ns : List Int)
  | dct (kvs : List (Key × D))
  | adr (a : Addr)
  | obj (c : Str) (fs : List (Str × D))
  | dcT (kvs : List (List Key × D))

inductive Fr where
  | z | n | k | l (r : Fr) | t (rs : List Fr) | la (a : Addr) (r : Fr) | ob (rs : List Fr) | rc (rs : List Fr) | op (rs : List Fr)

mutual
/-- no list, no dict lies within -/
def noL : D → Bool
  | .non | .bl _ | .int _ | .str _ | .adr _ => true
  | .tup xs => noLs xs
  | .lst _ | .scr _ | .dct _ | .obj _ _ | .dcT _ => false
def noLs : List D → Bool
  | [] => true
  | x :: r => noL x && noLs r
end
mutual
/-- nothing in it may be another's list -/
def Fr.zf : Fr → Bool
  | .z | .k | .la _ _ => false
  | .n => true
  | .l r => r.zf
  | .t rs => Fr.zfs rs
  | .ob rs => Fr.zfs rs
  | .rc rs => Fr.zfs rs
  | .op rs => Fr.zfs rs
def Fr.zfs : List Fr → Bool
  | [] => true
  | r :: rs => r.zf && Fr.zfs rs
end
def Fr.fz : Fr → Bool
  | .z | .n => true
  | _ => false

mutual
inductive Rep (K : PySem.W.Frag) (F : Hp) : V → D → Prop
  | non : Rep K F .non .non
  | bl (b : Bool) : Rep K F (.bl b) (.bl b)
  | int (i : Int) : Rep K F (.int i) (.int i)
  | str (s : Str) : Rep K F (.str s) (.str s)
  | adr (a : Addr) : Rep K F (.ref a) (.adr a)
  | lst {a : Addr} {vs : List V} {ds : List D} (h : F a = some (.lst vs)) (r : RepL K F vs ds) : Rep K F (.ref a) (.lst ds)
  | tup {a : Addr} {vs : List V} {ds : List D} (h : SqT K F a vs) (r : RepL K F vs ds) : Rep K F (.ref a) (.tup ds)
  | scr {a : Addr} {ns : List Int} (h : SqL K F a (ns.map V.int)) : Rep K F (.ref a) (.scr ns)
  | dct {a : Addr} {kvs : List (Key × V)} {kds : List (Key × D)} (h : F a = some (.dK kvs)) (r : RepK K F kvs kds) : Rep K F (.ref a) (.dct kds)
  | obj {a C dx : Addr} {c : Str} {fs : List (Str × V)} {ds : List (Str × D)} (h : F a = some (.ins C dx fs)) (hC : C = He.ga K c) (hk : fs.map (·.1) = ds.map (·.1)) (r : RepL K F (fs.map (·.2)) (ds.map (·.2))) : Rep K F (.ref a) (.obj c ds)
  | dcT {a : Addr} {kvs : List (List Key × V)} {kds : List (List Key × D)} (h : F a = some (.dT kvs)) (hk : kvs.map (·.1) = kds.map (·.1)) (r : RepL K F (kvs.map (·.2)) (kds.map (·.2))) : Rep K F (.ref a) (.dcT kds)
inductive RepL (K : PySem.W.Frag) (F : Hp) : List V → List D → Prop
  | nil : RepL K F [] []
  | cons {v : V} {vs : List V} {d : D} {ds : List D} (h : Rep K F v d) (t : RepL K F vs ds) : RepL K F (v :: vs) (d :: ds)
inductive RepK (K : PySem.W.Frag) (F : Hp) : List (Key × V) → List (Key × D) → Prop
  | nil : RepK K F [] []
  | cons {k : Key} {v : V} {vs : List (Key × V)} {d : D} {ds : List (Key × D)} (h : Rep K F v d) (t : RepK K F vs ds) : RepK K F ((k, v) :: vs) ((k, d) :: ds)
end

mutual
inductive RF (K : PySem.W.Frag) (F H : Hp) : Fr → V → D → List Addr → Prop
  | z {v : V} {d : D} (h : Rep K F v d) : RF K F H .z v d []
  | n {v : V} {d : D} (h : Rep K F v d) (q : noL d = true) : RF K F H .n v d []
  | k {a : Addr} {kvs : List (Key × V)} {kds : List (Key × D)} (h : H a = some (.dK kvs)) (r : RepK K F kvs kds) : RF K F H .k (.ref a) (.dct kds) [a]
  | l {r : Fr} {a : Addr} {vs : List V} {ds : List D} {as : List Addr} (h : H a = some (.lst vs)) (t : RFs K F H (List.replicate vs.length r) vs ds as) : RF K F H (.l r) (.ref a) (.lst ds) (a :: as)
  | t {rs : List Fr} {a : Addr} {vs : List V} {ds : List D} {as : List Addr} (h : SqT K F a vs) (q : RFs K F H rs vs ds as) : RF K F H (.t rs) (.ref a) (.tup ds) as
  | la {r : Fr} {a : Addr} {vs : List V} {ds : List D} {as : List Addr} (h : H a = some (.lst vs)) (t : RFs K F H (List.replicate vs.length r) vs ds as) : RF K F H (.la a r) (.ref a) (.lst ds) (a :: as)
  | kT {a : Addr} {kvs : List (List Key × V)} {kds : List (List Key × D)} (h : H a = some (.dT kvs)) (hk : kvs.map (·.1) = kds.map (·.1)) (r : RepL K F (kvs.map (·.2)) (kds.map (·.2))) : RF K F H .k (.ref a) (.dcT kds) [a]
  | ob {rs : List Fr} {a C dx : Addr} {c : Str} {fs : List (Str × V)} {ds : List (Str × D)} {as : List Addr} (h : H a = some (.ins C dx fs)) (hC : C = He.ga K c) (hk : fs.map (·.1) = ds.map (·.1)) (t : RFs K F H rs (fs.map (·.2)) (ds.map (·.2)) as) : RF K F H (.ob rs) (.ref a) (.obj c ds) (a :: as)
  | rc {rs : List Fr} {a : Addr} {kvs : List (Key × V)} {kds : List (Key × D)} {as : List Addr} (h : H a = some (.dK kvs)) (hk : kvs.map (·.1) = kds.map (·.1)) (t : RFs K F H rs (kvs.map (·.2)) (kds.map (·.2)) as) : RF K F H (.rc rs) (.ref a) (.dct kds) (a :: as)
  | qn {rs : List Fr} : RF K F H (.op rs) .non .non []
  | qs {rs : List Fr} {a C dx : Addr} {c : Str} {fs : List (Str × V)} {ds : List (Str × D)} {as : List Addr} (h : H a = some (.ins C dx fs)) (hC : C = He.ga K c) (hk : fs.map (·.1) = ds.map (·.1)) (t : RFs K F H rs (fs.map (·.2)) (ds.map (·.2)) as) : RF K F H (.op rs) (.ref a) (.obj c ds) (a :: as)
inductive RFs (K : PySem.W.Frag) (F H : Hp) : List Fr → List V → List D → List Addr → Prop
  | nil : RFs K F H [] [] [] []
  | cons {r : Fr} {rs : List Fr} {v : V} {vs : List V} {d : D} {ds : List D} {as bs : List Addr} (h : RF K F H r v d as) (t : RFs K F H rs vs ds bs) : RFs K F H (r :: rs) (v :: vs) (d :: ds) (as ++ bs)
end

section
variable {K : PySem.W.Frag} {F F' H H' : Hp}
mutual
theorem Rep.mono (e : Ex F F') : ∀ {v : V} {d : D}, Rep K F v d → Rep K F' v d
  | _, _, .non => .non
  | _, _, .bl b => .bl b
  | _, _, .int i => .int i
  | _, _, .str s => .str s
  | _, _, .adr a => .adr a
  | _, _, .lst h r => .lst (e _ _ h) (RepL.mono e r)
  | _, _, .tup h r => .tup (Evl.ex_t e h) (RepL.mono e r)
  | _, _, .scr h => .scr (Evl.ex_l e h)
  | _, _, .dct h r => .dct (e _ _ h) (RepK.mono e r)
  | _, _, .obj h hC hk r => .obj (e _ _ h) hC hk (RepL.mono e r)
  | _, _, .dcT h hk r => .dcT (e _ _ h) hk (RepL.mono e r)
theorem RepL.mono (e : Ex F F') : ∀ {vs : List V} {ds : List D}, RepL K F vs ds → RepL K F' vs ds
  | _, _, .nil => .nil
  | _, _, .cons h t => .cons (Rep.mono e h) (RepL.mono e t)
theorem RepK.mono (e : Ex F F') : ∀ {vs : List (Key × V)} {ds : List (Key × D)}, RepK K F vs ds → RepK K F' vs ds
  | _, _, .nil => .nil
  | _, _, .cons h t => .cons (Rep.mono e h) (RepK.mono e t)
end
mutual
theorem RF.mono (e : Ex F F') : ∀ {r : Fr} {v : V} {d : D} {as : List Addr}, RF K F H r v d as → (∀ a ∈ as, ∀ o, H a = some o → H' a = some o) → RF K F' H' r v d as
  | _, _, _, _, .z h, _ => .z (h.mono e)
  | _, _, _, _, .n h q, _ => .n (h.mono e) q
  | _, _, _, _, .k h r, g => .k (g _ (by simp) _ h) (r.mono e)
  | _, _, _, _, .l h t, g => .l (g _ (by simp) _ h) (RFs.mono e t fun a ha => g a (by simp [ha]))
  | _, _, _, _, .t h q, g => .t (Evl.ex_t e h) (RFs.mono e q g)
  | _, _, _, _, .la h t, g => .la (g _ (by simp) _ h) (RFs.mono e t fun a ha => g a (by simp [ha]))
  | _, _, _, _, .kT h hk r, g => .kT (g _ (by simp) _ h) hk (r.mono e)
  | _, _, _, _, .ob h hC hk t, g => .ob (g _ (by simp) _ h) hC hk (RFs.mono e t fun a ha => g a (by simp [ha]))
  | _, _, _, _, .rc h hk t, g => .rc (g _ (by simp) _ h) hk (RFs.mono e t fun a ha => g a (by simp [ha]))
  | _, _, _, _, .qn, g => .qn
  | _, _, _, _, .qs h hC hk t, g => .qs (g _ (by simp) _ h) hC hk (RFs.mono e t fun a ha => g a (by simp [ha]))
theorem RFs.mono (e : Ex F F') : ∀ {rs : List Fr} {vs : List V} {ds : List D} {as : List Addr}, RFs K F H rs vs ds as → (∀ a ∈ as, ∀ o, H a = some o → H' a = some o) → RFs K F' H' rs vs ds as
  | _, _, _, _, .nil, _ => .nil
  | _, _, _, _, .cons h t, g => .cons (RF.mono e h fun a ha => g a (by simp [ha])) (RFs.mono e t fun a ha => g a (by simp [ha]))
end
/-- the own cells of a value are lists and dicts -/
def Cell : HO → Prop
  | .lst _ => True
  | .dK _ => True
  | .dT _ => True
  | .ins _ _ _ => True
  | _ => False
mutual
theorem RF.cell : ∀ {r : Fr} {v : V} {d : D} {as : List Addr}, RF K F H r v d as → ∀ a ∈ as, ∃ o, H a = some o ∧ Cell o
  | _, _, _, _, .z _, a, ha => by simp at ha
  | _, _, _, _, .n _ _, a, ha => by simp at ha
  | _, _, _, _, .k h _, a, ha => by
    simp at ha
    subst ha
    exact ⟨_, h, trivial⟩
  | _, _, _, _, .l h t, a, ha => by
    rcases List.mem_cons.mp ha with e | ha
    · subst e
      exact ⟨_, h, trivial⟩
    · exact RFs.cell t a ha
  | _, _, _, _, .t _ q, a, ha => RFs.cell q a ha
  | _, _, _, _, .la h t, a, ha => by
    rcases List.mem_cons.mp ha with e | ha
    · subst e
      exact ⟨_, h, trivial⟩
    · exact RFs.cell t a ha
  | _, _, _, _, .kT h hk r, a, ha => by
    simp at ha
    subst ha
    exact ⟨_, h, trivial⟩
  | _, _, _, _, .ob h hC hk t, a, ha => by
    rcases List.mem_cons.mp ha with e | ha
    · subst e
      exact ⟨_, h, trivial⟩
    · exact RFs.cell t a ha
  | _, _, _, _, .rc h hk t, a, ha => by
    rcases List.mem_cons.mp ha with e | ha
    · subst e
      exact ⟨_, h, trivial⟩
    · exact RFs.cell t a ha
  | _, _, _, _, .qn, a, ha => by simp at ha
  | _, _, _, _, .qs h hC hk t, a, ha => by
    rcases List.mem_cons.mp ha with e | ha
    · subst e
      exact ⟨_, h, trivial⟩
    · exact RFs.cell t a ha
theorem RFs.cell : ∀ {rs : List Fr} {vs : List V} {ds : List D} {as : List Addr}, RFs K F H rs vs ds as → ∀ a ∈ as, ∃ o, H a = some o ∧ Cell o
  | _, _, _, _, .nil, a, ha => by simp at ha
  | _, _, _, _, .cons h t, a, ha => by
    rcases List.mem_append.mp ha with ha | ha
    · exact RF.cell h a ha
    · exact RFs.cell t a ha
end
/- what was its own is laid to the rest -/
theorem RepK.of : ∀ {kvs : List (Key × V)} {kds : List (Key × D)}, kvs.map (·.1) = kds.map (·.1) → RepL K F (kvs.map (·.2)) (kds.map (·.2)) → RepK K F kvs kds
  | [], [], _, _ => .nil
  | [], _ :: _, h, _ => by simp at h
  | _ :: _, [], h, _ => by simp at h
  | (k, v) :: t, (k', d) :: u, h, r => by
    simp only [List.map_cons, List.cons.injEq] at h
    obtain ⟨rfl, h⟩ := h
    cases r with
    | cons r1 r2 => exact .cons r1 (RepK.of h r2)
mutual
theorem RF.frozen (e : Ex F F') : ∀ {r : Fr} {v : V} {d : D} {as : List Addr}, RF K F H r v d as → (∀ a ∈ as, ∀ o, H a = some o → F' a = some o) → Rep K F' v d
  | _, _, _, _, .z h, _ => h.mono e
  | _, _, _, _, .n h q, _ => h.mono e
  | _, _, _, _, .k h r, g => .dct (g _ (by simp) _ h) (r.mono e)
  | _, _, _, _, .l h t, g => .lst (g _ (by simp) _ h) (RFs.frozen e t fun a ha => g a (by simp [ha]))
  | _, _, _, _, .t h q, g => .tup (Evl.ex_t e h) (RFs.frozen e q g)
  | _, _, _, _, .la h t, g => .lst (g _ (by simp) _ h) (RFs.frozen e t fun a ha => g a (by simp [ha]))
  | _, _, _, _, .kT h hk r, g => .dcT (g _ (by simp) _ h) hk (r.mono e)
  | _, _, _, _, .ob h hC hk t, g => .obj (g _ (by simp) _ h) hC hk (RFs.frozen e t fun a ha => g a (by simp [ha]))
  | _, _, _, _, .rc h hk t, g => .dct (g _ (by simp) _ h) (RepK.of hk (RFs.frozen e t fun a ha => g a (by simp [ha])))
  | _, _, _, _, .qn, g => .non
  | _, _, _, _, .qs h hC hk t, g => .obj (g _ (by simp) _ h) hC hk (RFs.frozen e t fun a ha => g a (by simp [ha]))
theorem RFs.frozen (e : Ex F F') : ∀ {rs : List Fr} {vs : List V} {ds : List D} {as : List Addr}, RFs K F H rs vs ds as → (∀ a ∈ as, ∀ o, H a = some o → F' a = some o) → RepL K F' vs ds
  | _, _, _, _, .nil, _ => .nil
  | _, _, _, _, .cons h t, g => .cons (RF.frozen e h fun a ha => g a (by simp [ha])) (RFs.frozen e t fun a ha => g a (by simp [ha]))
end
/-- F without the cells as -/
def less (F : Hp) (as : List Addr) : Hp := fun a => if a ∈ as then none else F a
/-- F with the cells as of H -/
def plus (F H : Hp) (as : List Addr) : Hp := fun a => if a ∈ as then H a else F a
theorem sqt_less {as : List Addr} {a : Addr} {xs : List V} (hc : ∀ b ∈ as, ∃ o, F b = some o ∧ Cell o) (h : SqT K F a xs) : SqT K (less F as) a xs := by
  rcases h with (h | ⟨o, h⟩) | h
  · refine .inl (.inl ?_)
    unfold less
    rw [if_neg]
    · exact h
    · intro hm
      obtain ⟨o, e, c⟩ := hc a hm
      rw [h] at e
      cases e
      exact c
  · refine .inl (.inr ⟨o, ?_⟩)
    unfold less
    rw [if_neg]
    · exact h
    · intro hm
      obtain ⟨o, e, c⟩ := hc a hm
      rw [h] at e
      cases e
      exact c
  · exact .inr h
mutual
theorem Rep.less {as : List Addr} (hc : ∀ b ∈ as, ∃ o, F b = some o ∧ Cell o) : ∀ {v : V} {d : D}, Rep K F v d → noL d = true → Rep K (U.less F as) v d
  | _, _, .non, _ => .non
  | _, _, .bl b, _ => .bl b
  | _, _, .int i, _ => .int i
  | _, _, .str s, _ => .str s
  | _, _, .adr a, _ => .adr a
  | _, _, .lst h r, q => by simp [noL] at q
  | _, _, .tup h r, q => .tup (sqt_less hc h) (RepL.less hc r (by simpa [noL] using q))
  | _, _, .scr h, q => by simp [noL] at q
  | _, _, .dct h r, q => by simp [noL] at q
  | _, _, .obj h _ _ r, q => by simp [noL] at q
  | _, _, .dcT h _ r, q => by simp [noL] at q
theorem RepL.less {as : List Addr} (hc : ∀ b ∈ as, ∃ o, F b = some o ∧ Cell o) : ∀ {vs : List V} {ds : List D}, RepL K F vs ds → noLs ds = true → RepL K (U.less F as) vs ds
  | _, _, .nil, _ => .nil
  | _, _, .cons h t, q => by
    have q' := q
    simp only [noLs, Bool.and_eq_true] at q'
    exact .cons (Rep.less hc h q'.1) (RepL.less hc t q'.2)
end
theorem zfs_all : ∀ {rs : List Fr}, Fr.zfs rs = true → ∀ r ∈ rs, r.zf = true
  | [], _, x, hx => by simp at hx
  | r :: rs, z, x, hx => by
    simp only [Fr.zfs, Bool.and_eq_true] at z
    rcases List.mem_cons.mp hx with e | hx
    · rw [e]; exact z.1
    · exact zfs_all z.2 x hx
mutual
theorem RF.less {as : List Addr} (hc : ∀ b ∈ as, ∃ o, F b = some o ∧ Cell o) : ∀ {r : Fr} {v : V} {d : D} {bs : List Addr}, RF K F H r v d bs → r.zf = true → RF K (U.less F as) H r v d bs
  | _, _, _, _, .z h, q => by simp [Fr.zf] at q
  | _, _, _, _, .n h q, _ => .n (h.less hc q) q
  | _, _, _, _, .k h r, q => by simp [Fr.zf] at q
  | _, _, _, _, .la h r, q => by simp [Fr.zf] at q
  | _, _, _, _, .kT h hk r, q => by simp [Fr.zf] at q
  | _, _, _, _, .ob h hC hk t, z => .ob h hC hk (RFs.less hc t (by
      have z' := z
      simp only [Fr.zf] at z'
      exact zfs_all z'))
  | _, _, _, _, .rc h hk t, z => .rc h hk (RFs.less hc t (by
      have z' := z
      simp only [Fr.zf] at z'
      exact zfs_all z'))
  | _, _, _, _, .qn, z => .qn
  | _, _, _, _, .qs h hC hk t, z => .qs h hC hk (RFs.less hc t (by
      have z' := z
      simp only [Fr.zf] at z'
      exact zfs_all z'))
  | _, _, _, _, .l h t, q => .l h (RFs.less hc t (by
      have q' := q
      simp only [Fr.zf] at q'
      intro x hx
      rw [List.eq_of_mem_replicate hx]
      exact q'))
  | _, _, _, _, .t h q, z => .t (sqt_less hc h) (RFs.less hc q (by
      have z' := z
      simp only [Fr.zf] at z'
      exact zfs_all z'))
theorem RFs.less {as : List Addr} (hc : ∀ b ∈ as, ∃ o, F b = some o ∧ Cell o) : ∀ {rs : List Fr} {vs : List V} {ds : List D} {bs : List Addr}, RFs K F H rs vs ds bs → (∀ r ∈ rs, r.zf = true) → RFs K (U.less F as) H rs vs ds bs
  | _, _, _, _, .nil, _ => .nil
  | _, _, _, _, .cons h t, q => .cons (RF.less hc h (q _ (by simp))) (RFs.less hc t fun r hr => q r (by simp [hr]))
end
end

/-! ### heaps that grow -/
/-- F grows only where B has nothing -/
structure Gr (B F F' : Hp) : Prop where
  ex : Ex F F'
  new : ∀ a, F a = none → F' a ≠ none → B a = none
theorem Gr.refl (B F : Hp) : Gr B F F := ⟨Ex.refl _, fun a h q => absurd h q⟩
theorem ex_none {H H' : Hp} {a : Addr} (e : Ex H H') (h : H' a = none) : H a = none := Evl.fresh_back e h
theorem Gr.trans {B B' F F' F'' : Hp} (a : Gr B F F') (b : Gr B' F' F'') (e : Ex B B') : Gr B F F'' := ⟨a.ex.trans b.ex, fun x h q => by
  by_cases c : F' x = none
  · exact ex_none e (b.new x c q)
  · exact a.new x h c⟩
theorem Gr.base {B B' F F' : Hp} (a : Gr B' F F') (e : Ex B B') : Gr B F F' := ⟨a.ex, fun x h q => ex_none e (a.new x h q)⟩
/-- the cells as are each one's own, new to B, not in F -/
structure Own (B F : Hp) (as : List Addr) : Prop where
  one : ∀ a, as.count a ≤ 1
  fr : ∀ a ∈ as, B a = none ∧ F a = none
theorem Own.nil {B F : Hp} : Own B F [] := ⟨fun a => by simp, fun a h => by simp at h⟩
theorem plus_ex {F H : Hp} {as : List Addr} (h : ∀ a ∈ as, F a = none) : Ex F (plus F H as) := fun a o e => by
  unfold plus
  rw [if_neg]
  · exact e
  · intro hm
    rw [h a hm] at e
    cases e
theorem plus_sub {F H : Hp} {as : List Addr} (h : Ex F H) : Ex (plus F H as) H := fun a o e => by
  unfold plus at e
  split at e
  · exact e
  · exact h _ _ e
theorem plus_gr {B F H : Hp} {as : List Addr} (h : Own B F as) : Gr B F (plus F H as) := ⟨plus_ex fun a ha => (h.fr a ha).2, fun a e q => by
  unfold plus at q
  split at q
  · rename_i hm
    exact (h.fr a hm).1
  · exact absurd e q⟩

/-! ### what an expression says -/
inductive OE where
  | stuck | val (d : D) | err (c : Str)
abbrev Ev := List (Option D)
def look : Ev → Nat → Option D
  | [], _ => none
  | x :: _, 0 => x
  | _ :: r, n + 1 => look r n
structure EnvZ (K : PySem.W.Frag) (F : Hp) (σ : L2.St) (ev : Ev) : Prop where
  len : ev.length ≤ σ.length
  at_ : ∀ i d, look ev i = some d → ∃ v, σ[i]? = some (some v) ∧ Rep K F v d
theorem EnvZ.mono {K : PySem.W.Frag} {F F' : Hp} {σ : L2.St} {ev : Ev} (h : EnvZ K F σ ev) (e : Ex F F') : EnvZ K F' σ ev := ⟨h.len, fun i d hl => by
  obtain ⟨v, h1, h2⟩ := h.at_ i d hl
  exact ⟨v, h1, h2.mono e⟩⟩
def PostE (K : PySem.W.Frag) (Q : VK) (F H : Hp) (r : Fr) (d : D) : Prop := ∀ v H' F' as, Ex H H' → Gr H F F' → Ex F' H' → RF K F' H' r v d as → Own H F' as → Q v H'
def PostA (K : PySem.W.Frag) (Q : List V → Hp → Prop) (F H : Hp) (rs : List Fr) (ds : List D) : Prop := ∀ vs H' F' as, Ex H H' → Gr H F F' → Ex F' H' → RFs K F' H' rs vs ds as → Own H F' as → Q vs H'
/-- an error of the class x is wished for at σ -/
def Wish (X : Cx) (W : WX) (σ : L2.St) (H : Hp) (x : Str) : Prop := ∀ H', Ex H H' → ∀ C, X.mg x = some (.ref C) → W (.ref C) none σ H'
def Post (X : Cx) (W : WX) (σ : L2.St) (Q : VK) (F H : Hp) (r : Fr) : OE → Prop
  | .stuck => False
  | .val d => PostE X.K Q F H r d
  | .err x => Wish X W σ H x
theorem PostE.up {K : PySem.W.Frag} {Q : VK} {F F1 H H1 : Hp} {r : Fr} {d : D} (h : PostE K Q F H r d) (g : Gr H F F1) (e : Ex H H1) : PostE K Q F1 H1 r d :=
  fun v H' F' as e1 g1 f1 rf o => h v H' F' as (e.trans e1) (g.trans g1 e) f1 rf ⟨o.one, fun a ha => ⟨ex_none e (o.fr a ha).1, (o.fr a ha).2⟩⟩
theorem PostA.up {K : PySem.W.Frag} {Q : List V → Hp → Prop} {F F1 H H1 : Hp} {r : List Fr} {d : List D} (h : PostA K Q F H r d) (g : Gr H F F1) (e : Ex H H1) : PostA K Q F1 H1 r d :=
  fun v H' F' as e1 g1 f1 rf o => h v H' F' as (e.trans e1) (g.trans g1 e) f1 rf ⟨o.one, fun a ha => ⟨ex_none e (o.fr a ha).1, (o.fr a ha).2⟩⟩
theorem Post.up {X : Cx} {W : WX} {σ : L2.St} {Q : VK} {F F1 H H1 : Hp} {r : Fr} {o : OE} (h : Post X W σ Q F H r o) (g : Gr H F F1) (e : Ex H H1) : Post X W σ Q F1 H1 r o := by
  cases o with
  | stuck => exact h
  | val d => exact PostE.up h g e
  | err x => exact fun H' e' => h H' (e.trans e')
abbrev ME := Ev → OE
def tE (X : Cx) (W : WX) (r : Fr) (me : ME) : TE := fun σ H Q => ∃ F ev, Ex F H ∧ EnvZ X.K F σ ev ∧ Post X W σ Q F H r (me ev)
/-- THE JUDGEMENT of an expression -/
def SE (X : Cx) (W : WX) (r : Fr) (e : Expr) (me : ME) : Prop := PE X e (tE X W r me)
theorem PE.weak {X : Cx} {e : Expr} {t t' : TE} (h : PE X e t) (q : ∀ σ H Q, t' σ H Q → t σ H Q) : PE X e t' := ⟨fun pins s σ H Q I hw => h.run pins s σ H Q I (q σ H Q hw)⟩
theorem PT.weak {X : Cx} {e : Expr} {t t' : TT} (h : PT X e t) (q : ∀ σ H Q, t' σ H Q → t σ H Q) : PT X e t' := ⟨fun pins s σ H Q I hw => h.run pins s σ H Q I (q σ H Q hw)⟩
theorem PW.weak {X : Cx} {e : Expr} {t t' : TT} (h : PW X e t) (q : ∀ σ H Q, t' σ H Q → t σ H Q) : PW X e t' := ⟨fun wh pins s σ H Q I hw => h.run wh pins s σ H Q I (q σ H Q hw)⟩
theorem PA.weak {X : Cx} {e : List Expr} {t t' : TA} (h : PA X e t) (q : ∀ σ H Q, t' σ H Q → t σ H Q) : PA X e t' := ⟨fun pos pins s σ H Q I hw => h.run pos pins s σ H Q I (q σ H Q hw)⟩
theorem PS.weak {X : Cx} {e : Stmt} {t t' : TS} (h : PS X e t) (q : ∀ D σ H, t' D σ H → t D σ H) : PS X e t' := ⟨fun pins s σ H D I hw => h.run pins s σ H D I (q D σ H hw)⟩
theorem PSs.weak {X : Cx} {e : List Stmt} {t t' : TS} (h : PSs X e t) (q : ∀ D σ H, t' D σ H → t D σ H) : PSs X e t' := ⟨fun pins s σ H D I hw => h.run pins s σ H D I (q D σ H hw)⟩

section
variable {X : Cx} {W : WX}
/-- whatever was new may be taken as shared -/
theorem PostE.frz {K : PySem.W.Frag} {Q : VK} {F H : Hp} {r : Fr} {d : D} (h : PostE K Q F H .z d) : PostE K Q F H r d := fun v H' F' as e g f rf o =>
  h v H' (plus F' H' as) [] e (g.trans (plus_gr (B := H) ⟨o.one, o.fr⟩) (Ex.refl _)) (plus_sub f) (.z (rf.frozen (plus_ex fun a ha => (o.fr a ha).2) fun a ha u hu => by unfold plus; rw [if_pos ha]; exact hu)) .nil
theorem PostA.frz {K : PySem.W.Frag} {Q : List V → Hp → Prop} {F H : Hp} {rs : List Fr} {ds : List D} (h : ∀ vs H' F', Ex H H' → Gr H F F' → Ex F' H' → RepL K F' vs ds → Q vs H') : PostA K Q F H rs ds := fun v H' F' as e g f rf o =>
  h v H' (plus F' H' as) e (g.trans (plus_gr (B := H) ⟨o.one, o.fr⟩) (Ex.refl _)) (plus_sub f) (rf.frozen (plus_ex fun a ha => (o.fr a ha).2) fun a ha u hu => by unfold plus; rw [if_pos ha]; exact hu)
theorem SE.toZ {r : Fr} {e : Expr} {me : ME} (h : SE X W r e me) : SE X W .z e me := PE.weak h fun σ H Q ⟨F, ev, hF, hz, hp⟩ => ⟨F, ev, hF, hz, by
  cases hm : me ev with
  | stuck => rw [hm] at hp; exact hp
  | err x => rw [hm] at hp; exact hp
  | val d => rw [hm] at hp; exact PostE.frz hp⟩
/-- a shared value without lists -/
def mN (me : ME) : ME := fun ev => match me ev with
  | .val d => if noL d = true then .val d else .stuck
  | o => o
theorem SE.toN {r : Fr} {e : Expr} {me : ME} (h : SE X W r e me) : SE X W .n e (mN me) := PE.weak h.toZ fun σ H Q ⟨F, ev, hF, hz, hp⟩ => ⟨F, ev, hF, hz, by
  unfold mN at hp
  cases hm : me ev with
  | stuck => rw [hm] at hp; exact hp
  | err x => rw [hm] at hp; exact hp
  | val d =>
    rw [hm] at hp
    dsimp only at hp
    split at hp
    · rename_i hn
      intro v H' F' as e g f rf o
      cases rf with
      | z hr => exact hp v H' F' [] e g f (.n hr hn) .nil
    · exact hp.elim⟩
def bindE (o : OE) (f : D → OE) : OE := match o with
  | .val d => f d
  | .stuck => .stuck
  | .err x => .err x
def m1 (f : D → OE) (ma : ME) : ME := fun ev => bindE (ma ev) f
def m2 (f : D → D → OE) (ma mb : ME) : ME := fun ev => bindE (ma ev) fun x => bindE (mb ev) fun y => f x y
/-- sequencing: a part is read, then the rest -/
theorem seqE {rr : Fr} {ma : ME} {f : D → OE} {σ : L2.St} {F H : Hp} {ev : Ev} {Q R : VK} (hF : Ex F H) (hz : EnvZ X.K F σ ev) (hp : Post X W σ Q F H rr (bindE (ma ev) f))
    (k : ∀ d v H' F', ma ev = .val d → Ex H H' → Gr H F F' → Ex F' H' → Rep X.K F' v d → EnvZ X.K F' σ ev → Post X W σ Q F' H' rr (f d) → R v H') : tE X W .z ma σ H R := by
  refine ⟨F, ev, hF, hz, ?_⟩
  cases hm : ma ev with
  | stuck => rw [hm] at hp; exact hp
  | err x => rw [hm] at hp; exact hp
  | val d =>
    rw [hm] at hp
    intro v H' F' as e g f' rf o
    cases rf with
    | z hr => exact k d v H' F' hm e g f' hr (hz.mono g.ex) (Post.up hp g e)
/-- a two-place operation of values says f -/
def OpD (X : Cx) (W : WX) (r : Fr) (R : R2) (f : D → D → OE) : Prop := ∀ F H x y dx dy σ Q, Ex F H → Rep X.K F x dx → Rep X.K F y dy → Post X W σ Q F H r (f dx dy) → R x y H Q
def UnD (X : Cx) (W : WX) (r : Fr) (R : V → Hp → VK → Prop) (f : D → OE) : Prop := ∀ F H x dx σ Q, Ex F H → Rep X.K F x dx → Post X W σ Q F H r (f dx) → R x H Q
theorem t_op {R : R2} {r : Fr} {f : D → D → OE} {ma mb : ME} (hR : OpD X W r R f) : ∀ σ H Q, tE X W r (m2 f ma mb) σ H Q → tOp R (tE X W .z ma) (tE X W .z mb) σ H Q := fun σ H Q ⟨F, ev, hF, hz, hp⟩ =>
  seqE hF hz hp fun dx v H1 F1 _ e1 g1 f1 r1 z1 p1 => seqE f1 z1 p1 fun dy w H2 F2 _ e2 g2 f2 r2 z2 p2 => hR F2 H2 v w dx dy σ Q f2 (r1.mono g2.ex) r2 p2
theorem e_op {a b : Expr} {pos : Pos} {op : Operator} {R : R2} {r ra rb : Fr} {f : D → D → OE} {ma mb : ME} (ho : OpR X (binaryOp op) R) (hR : OpD X W r R f) (ha : SE X W ra a ma) (hb : SE X W rb b mb) : SE X W r (.BinOp a op b pos) (m2 f ma mb) :=
  PE.weak (pe_op ho ha.toZ hb.toZ) (t_op hR)
theorem e_un {a : Expr} {pos : Pos} {op : UnaryOp} {R : V → Hp → VK → Prop} {r ra : Fr} {f : D → OE} {ma : ME} (ho : UnR X (unaryOp op) R) (hR : UnD X W r R f) (ha : SE X W ra a ma) : SE X W r (.UnaryOp op a pos) (m1 f ma) :=
  PE.weak (pe_un ho ha.toZ) fun σ H Q ⟨F, ev, hF, hz, hp⟩ => seqE hF hz hp fun dx v H1 F1 _ e1 g1 f1 r1 z1 p1 => hR F1 H1 v dx σ Q f1 r1 p1
theorem e_cmp {a b : Expr} {pos : Pos} {op : CmpOp} {R : R2} {r ra rb : Fr} {f : D → D → OE} {ma mb : ME} (ho : OpR X (compareOp op) R) (hR : OpD X W r R f) (ha : SE X W ra a ma) (hb : SE X W rb b mb) (hm : behindInMarks op b = false) : SE X W r (.Compare a [op] [b] pos) (m2 f ma mb) :=
  PE.weak (pe_cmpR ho ha.toZ hb.toZ hm) (t_op hR)
/-! ### a value is handed on -/
theorem post_int {σ : L2.St} {Q : VK} {F H : Hp} {i : Int} (hF : Ex F H) (h : Post X W σ Q F H .n (.val (.int i))) : Q (.int i) H := h (.int i) H F [] (Ex.refl _) (Gr.refl _ _) hF (.n (.int i) rfl) .nil
theorem post_bl {σ : L2.St} {Q : VK} {F H : Hp} {i : Bool} (hF : Ex F H) (h : Post X W σ Q F H .n (.val (.bl i))) : Q (.bl i) H := h (.bl i) H F [] (Ex.refl _) (Gr.refl _ _) hF (.n (.bl i) rfl) .nil
theorem post_str {σ : L2.St} {Q : VK} {F H : Hp} {i : Str} (hF : Ex F H) (h : Post X W σ Q F H .n (.val (.str i))) : Q (.str i) H := h (.str i) H F [] (Ex.refl _) (Gr.refl _ _) hF (.n (.str i) rfl) .nil
theorem post_z {σ : L2.St} {Q : VK} {F H : Hp} {d : D} {v : V} (hF : Ex F H) (h : Post X W σ Q F H .z (.val d)) (r : Rep X.K F v d) : Q v H := h v H F [] (Ex.refl _) (Gr.refl _ _) hF (.z r) .nil
/-! ### names, constants -/
def mVar (i : Nat) : ME := fun ev => match look ev i with
  | some d => .val d
  | none => .stuck
def mC (d : D) : ME := fun _ => .val d
theorem e_var (i : Nat) {x : Str} {pos : Pos} (hN : X.N[i]? = some x := by rfl) (hv : Vis X.env.scope x := by first | exact Or.inl rfl | exact Or.inr (Or.inl rfl) | exact Or.inr (Or.inr rfl)) (hd : (x == ("__debug__" : Str)) = false := by decide)
    (hcd : (x == ("__classdict__" : Str)) = false := by decide) : SE X W .z (.Name x pos) (mVar i) := PE.weak (pe_var hN hv hd hcd) fun σ H Q ⟨F, ev, hF, hz, hp⟩ => by
  unfold mVar at hp
  cases hl : look ev i with
  | none => rw [hl] at hp; exact hp.elim
  | some d =>
    rw [hl] at hp
    obtain ⟨v, h1, h2⟩ := hz.at_ i d hl
    exact ⟨v, h1, post_z hF hp h2⟩
theorem e_int {i j pos} : SE X W .n (.Constant (.int i) j pos) (mC (.int i)) := PE.weak pe_int fun σ H Q ⟨F, ev, hF, hz, hp⟩ => post_int hF hp
theorem e_bl {i j pos} : SE X W .n (.Constant (.bool i) j pos) (mC (.bl i)) := PE.weak pe_bl fun σ H Q ⟨F, ev, hF, hz, hp⟩ => post_bl hF hp
theorem e_str {i j pos} : SE X W .n (.Constant (.str i) j pos) (mC (.str i)) := PE.weak pe_str fun σ H Q ⟨F, ev, hF, hz, hp⟩ => post_str hF hp
theorem e_non {j pos} : SE X W .n (.Constant .none j pos) (mC .non) := PE.weak pe_non fun σ H Q ⟨F, ev, hF, hz, hp⟩ => hp .non H F [] (Ex.refl _) (Gr.refl _ _) hF (.n .non rfl) .nil
/-- a module's int -/
theorem e_gint {x : Str} {i : Int} {pos : Pos} (hg : Gl X x) (hm : ∃ t, X.mg x = some (.int i t)) (hd : (x == ("__debug__" : Str)) = false := by decide) : SE X W .n (.Name x pos) (mC (.int i)) := by
  obtain ⟨t, hm⟩ := hm
  exact PE.weak (pe_glob hg hm (v := .int i) ⟨t, rfl⟩ hd) fun σ H Q ⟨F, ev, hF, hz, hp⟩ => post_int hF hp
theorem e_gstr {x : Str} {i : Str} {pos : Pos} (hg : Gl X x) (hm : ∃ t, X.mg x = some (.str i t)) (hd : (x == ("__debug__" : Str)) = false := by decide) : SE X W .n (.Name x pos) (mC (.str i)) := by
  obtain ⟨t, hm⟩ := hm
  exact PE.weak (pe_glob hg hm (v := .str i) ⟨t, rfl⟩ hd) fun σ H Q ⟨F, ev, hF, hz, hp⟩ => post_str hF hp
/-! ### whole numbers -/
def fI (g : Int → Int → OE) : D → D → OE := fun x y => match x, y with
  | .int i, .int j => g i j
  | _, _ => .stuck
/-- an int operation under a condition -/
theorem opD_I {C : Int → Int → Prop} {g : Int → Int → Int} {c : Int → Int → Prop} [∀ i j, Decidable (c i j)] (hc : ∀ i j, c i j → C i j) : OpD X W .n (rI C fun i j => .int (g i j)) (fI fun i j => if c i j then .val (.int (g i j)) else .stuck) := fun F H x y dx dy σ Q hF rx ry hp => by
  cases rx <;> first | exact hp.elim | skip
  cases ry <;> first | exact hp.elim | skip
  rename_i i j
  dsimp only [fI] at hp
  split at hp
  · rename_i h
    exact ⟨i, j, rfl, rfl, hc _ _ h, post_int hF hp⟩
  · exact hp.elim
theorem opD_I0 {g : Int → Int → Int} : OpD X W .n (rI0 fun i j => .int (g i j)) (fI fun i j => .val (.int (g i j))) := fun F H x y dx dy σ Q hF rx ry hp => by
  cases rx <;> first | exact hp.elim | skip
  cases ry <;> first | exact hp.elim | skip
  exact ⟨_, _, rfl, rfl, post_int hF hp⟩
theorem opD_B0 {g : Int → Int → Bool} : OpD X W .n (rI0 fun i j => .bl (g i j)) (fI fun i j => .val (.bl (g i j))) := fun F H x y dx dy σ Q hF rx ry hp => by
  cases rx <;> first | exact hp.elim | skip
  cases ry <;> first | exact hp.elim | skip
  exact ⟨_, _, rfl, rfl, post_bl hF hp⟩
end

/-! ### the frame: each name's value, and what of it is the frame's own -/
abbrev Env := List (Option (Fr × D))
inductive EnvR (K : PySem.W.Frag) (F H : Hp) : L2.St → Env → List Addr → Prop
  | nil : EnvR K F H [] [] []
  | skip {s : Option V} {σ : L2.St} {e : Env} {as : List Addr} (t : EnvR K F H σ e as) : EnvR K F H (s :: σ) (none :: e) as
  | slot {v : V} {σ : L2.St} {r : Fr} {d : D} {e : Env} {as bs : List Addr} (h : RF K F H r v d as) (t : EnvR K F H σ e bs) : EnvR K F H (some v :: σ) (some (r, d) :: e) (as ++ bs)
def dOf : Env → Ev
  | [] => []
  | none :: r => none :: dOf r
  | some (_, d) :: r => some d :: dOf r
/-- the own ones hidden -/
def hOf : Env → Ev
  | [] => []
  | none :: r => none :: hOf r
  | some (.z, d) :: r => some d :: hOf r
  | some (.n, d) :: r => some d :: hOf r
  | some (.k, _) :: r => none :: hOf r
  | some (.l _, _) :: r => none :: hOf r
  | some (.t _, _) :: r => none :: hOf r
  | some (.la _ _, _) :: r => none :: hOf r
  | some (.ob _, _) :: r => none :: hOf r
  | some (.rc _, _) :: r => none :: hOf r
  | some (.op _, _) :: r => none :: hOf r
def vw (b : Bool) (env : Env) : Ev := if b = true then hOf env else dOf env
section
variable {K : PySem.W.Frag} {F F' H H' : Hp} {σ : L2.St} {env : Env} {as : List Addr}
theorem EnvR.len (h : EnvR K F H σ env as) : σ.length = env.length := by
  induction h with
  | nil => rfl
  | skip _ ih => simp [ih]
  | slot _ _ ih => simp [ih]
theorem EnvR.cell (h : EnvR K F H σ env as) : ∀ a ∈ as, ∃ o, H a = some o ∧ Cell o := by
  induction h with
  | nil => intro a ha; simp at ha
  | skip _ ih => exact ih
  | slot h _ ih =>
    intro a ha
    rcases List.mem_append.mp ha with ha | ha
    · exact h.cell a ha
    · exact ih a ha
theorem EnvR.mono (h : EnvR K F H σ env as) (e : Ex F F') (g : ∀ a ∈ as, ∀ o, H a = some o → H' a = some o) : EnvR K F' H' σ env as := by
  induction h with
  | nil => exact .nil
  | skip _ ih => exact .skip (ih g)
  | slot h _ ih => exact .slot (h.mono e fun a ha => g a (by simp [ha])) (ih fun a ha => g a (by simp [ha]))
theorem dOf_len : ∀ env : Env, (dOf env).length = env.length
  | [] => rfl
  | none :: r => by simp [dOf, dOf_len r]
  | some (_, _) :: r => by simp [dOf, dOf_len r]
theorem hOf_len : ∀ env : Env, (hOf env).length = env.length
  | [] => rfl
  | none :: r => by simp [hOf, hOf_len r]
  | some (.z, _) :: r => by simp [hOf, hOf_len r]
  | some (.n, _) :: r => by simp [hOf, hOf_len r]
  | some (.k, _) :: r => by simp [hOf, hOf_len r]
  | some (.l _, _) :: r => by simp [hOf, hOf_len r]
  | some (.t _, _) :: r => by simp [hOf, hOf_len r]
  | some (.la _ _, _) :: r => by simp [hOf, hOf_len r]
  | some (.ob _, _) :: r => by simp [hOf, hOf_len r]
  | some (.rc _, _) :: r => by simp [hOf, hOf_len r]
  | some (.op _, _) :: r => by simp [hOf, hOf_len r]
theorem EnvR.dz (h : EnvR K F H σ env as) (hn : ∀ a ∈ as, F a = none) : EnvZ K (plus F H as) σ (dOf env) := by
  refine ⟨by rw [dOf_len, h.len]; exact Nat.le_refl _, ?_⟩
  have main : ∀ G : Hp, Ex F G → (∀ a ∈ as, ∀ o, H a = some o → G a = some o) → ∀ i d, look (dOf env) i = some d → ∃ v, σ[i]? = some (some v) ∧ Rep K G v d := by
    intro G e
    clear hn
    induction h with
    | nil => intro _ i d hl; simp [dOf, look] at hl
    | skip _ ih =>
      intro g i d hl
      cases i with
      | zero => simp [dOf, look] at hl
      | succ i =>
        obtain ⟨v, h1, h2⟩ := ih g i d (by simpa [dOf, look] using hl)
        exact ⟨v, by simpa using h1, h2⟩
    | slot h _ ih =>
      intro g i d hl
      cases i with
      | zero =>
        simp only [dOf, look, Option.some.injEq] at hl
        subst hl
        exact ⟨_, rfl, h.frozen e fun a ha => g a (by simp [ha])⟩
      | succ i =>
        obtain ⟨v, h1, h2⟩ := ih (fun a ha => g a (by simp [ha])) i d (by simpa [dOf, look] using hl)
        exact ⟨v, by simpa using h1, h2⟩
  exact main _ (plus_ex hn) fun a ha o ho => by unfold plus; rw [if_pos ha]; exact ho
theorem EnvR.hz (h : EnvR K F H σ env as) : EnvZ K F σ (hOf env) := by
  refine ⟨by rw [hOf_len, h.len]; exact Nat.le_refl _, ?_⟩
  induction h with
  | nil => intro i d hl; simp [hOf, look] at hl
  | skip _ ih =>
    intro i d hl
    cases i with
    | zero => simp [hOf, look] at hl
    | succ i =>
      obtain ⟨v, h1, h2⟩ := ih i d (by simpa [hOf, look] using hl)
      exact ⟨v, by simpa using h1, h2⟩
  | @slot v σ r d e as bs h _ ih =>
    intro i d' hl
    cases i with
    | zero =>
      cases h with
      | z hr =>
        have hd : d = d' := by simpa [hOf, look] using hl
        subst hd
        exact ⟨_, rfl, hr⟩
      | n hr _ =>
        have hd : d = d' := by simpa [hOf, look] using hl
        subst hd
        exact ⟨_, rfl, hr⟩
      | k _ _ => simp [hOf, look] at hl
      | l _ _ => simp [hOf, look] at hl
      | t _ _ => simp [hOf, look] at hl
      | la _ _ => simp [hOf, look] at hl
      | kT _ _ _ => simp [hOf, look] at hl
      | ob _ _ _ _ => simp [hOf, look] at hl
      | rc _ _ _ => simp [hOf, look] at hl
      | qn => simp [hOf, look] at hl
      | qs _ _ _ _ => simp [hOf, look] at hl
    | succ i =>
      have e2 : look (hOf e) i = some d' := by cases r <;> simpa [hOf, look] using hl
      obtain ⟨v, h1, h2⟩ := ih i d' e2
      exact ⟨v, by simpa using h1, h2⟩
/-- a slot is given another value -/
theorem EnvR.set {r : Fr} {v : V} {d : D} {bs : List Addr} (h : EnvR K F H σ env as) (q : RF K F H r v d bs) : ∀ {i : Nat}, i < env.length → ∃ cs, EnvR K F H (σ.set i (some v)) (env.set i (some (r, d))) cs ∧ ∀ a, cs.count a ≤ as.count a + bs.count a := by
  induction h with
  | nil => intro i hi; simp at hi
  | @skip s σ e as t ih =>
    intro i hi
    cases i with
    | zero => exact ⟨bs ++ as, .slot q t, fun a => by rw [List.count_append]; omega⟩
    | succ i =>
      obtain ⟨cs, h1, h2⟩ := ih (by simpa using hi)
      exact ⟨cs, .skip h1, h2⟩
  | @slot v' σ r' d' e as' bs' h' t ih =>
    intro i hi
    cases i with
    | zero => exact ⟨bs ++ bs', .slot q t, fun a => by rw [List.count_append, List.count_append]; omega⟩
    | succ i =>
      obtain ⟨cs, h1, h2⟩ := ih (by simpa using hi)
      exact ⟨as' ++ cs, .slot h' h1, fun a => by
        have := h2 a
        rw [List.count_append, List.count_append]
        omega⟩
end
theorem Own.sub {B F : Hp} {as cs : List Addr} (o : Own B F as) (h : ∀ a, cs.count a ≤ as.count a) : Own B F cs := ⟨fun a => Nat.le_trans (h a) (o.one a), fun a ha => o.fr a (by
  have h1 := h a
  have h2 : 0 < cs.count a := List.count_pos_iff.mpr ha
  exact List.count_pos_iff.mp (by omega))⟩

/-- a state of the body: B the heap at its entry, F0 what was known there -/
structure Stt (K : PySem.W.Frag) (B F0 F H : Hp) (as : List Addr) : Prop where
  own : Own B F as
  bh : Ex B H
  gr : Gr B F0 F
  fh : Ex F H
def Sta (K : PySem.W.Frag) (B F0 : Hp) (H : Hp) (σ : L2.St) (env : Env) : Prop := ∃ F as, EnvR K F H σ env as ∧ Stt K B F0 F H as
section
variable {X : Cx} {W : WX} {B F0 : Hp}
/-- an expression within a body -/
theorem Stt.eval {b : Bool} {r : Fr} {me : ME} {σ : L2.St} {F H : Hp} {env : Env} {as : List Addr} {Q : VK} (hb : b = true ∨ r.zf = true) (R : EnvR X.K F H σ env as) (S : Stt X.K B F0 F H as) (hns : me (vw b env) ≠ .stuck)
    (herr : ∀ x, me (vw b env) = .err x → ∀ H', Sta X.K B F0 H' σ env → ∀ C, X.mg x = some (.ref C) → W (.ref C) none σ H')
    (k : ∀ d v H' F' bs, me (vw b env) = .val d → Ex H H' → Ex F F' → EnvR X.K F' H' σ env as → RF X.K F' H' r v d bs → Stt X.K B F0 F' H' (as ++ bs) → (∀ a ∈ bs, H a = none) → Q v H') : tE X W r me σ H Q := by
  have hc := R.cell
  have hn : ∀ a ∈ as, F a = none := fun a ha => (S.own.fr a ha).2
  have up : ∀ H', Ex H H' → Sta X.K B F0 H' σ env := fun H' e => ⟨F, as, R.mono (Ex.refl _) fun a _ o h => e a o h, S.own, S.bh.trans e, S.gr, S.fh.trans e⟩
  have wish : ∀ x, me (vw b env) = .err x → Wish X W σ H x := fun x hx H' e C hC => herr x hx H' (up H' e) C hC
  cases b with
  | true =>
    refine ⟨F, hOf env, S.fh, R.hz, ?_⟩
    have e0 : vw true env = hOf env := rfl
    rw [e0] at hns herr k wish
    cases hm : me (hOf env) with
    | stuck => exact absurd hm hns
    | err x => exact wish x hm
    | val d =>
      intro v H' F' bs e g f rf o
      have nb : ∀ a ∈ as, F' a = none := fun a ha => by
        cases hq : F' a with
        | none => rfl
        | some u =>
          have := g.new a (hn a ha) (by rw [hq]; simp)
          obtain ⟨o', ho', _⟩ := hc a ha
          rw [ho'] at this
          cases this
      refine k d v H' F' bs hm e g.ex (R.mono g.ex fun a _ o h => e a o h) rf ⟨⟨fun a => ?_, fun a ha => ?_⟩, S.bh.trans e, S.gr.trans g S.bh, f⟩ fun a ha => (o.fr a ha).1
      · rw [List.count_append]
        have h1 := S.own.one a
        have h2 := o.one a
        by_cases ha : a ∈ as
        · obtain ⟨o', ho', _⟩ := hc a ha
          have : bs.count a = 0 := List.count_eq_zero.mpr fun hb => by
            rw [(o.fr a hb).1] at ho'
            cases ho'
          omega
        · have : as.count a = 0 := List.count_eq_zero.mpr ha
          omega
      · rcases List.mem_append.mp ha with ha | ha
        · exact ⟨(S.own.fr a ha).1, nb a ha⟩
        · exact ⟨ex_none S.bh (o.fr a ha).1, (o.fr a ha).2⟩
  | false =>
    have hzf : r.zf = true := by
      rcases hb with z | z
      · cases z
      · exact z
    refine ⟨plus F H as, dOf env, plus_sub S.fh, R.dz hn, ?_⟩
    have e0 : vw false env = dOf env := rfl
    rw [e0] at hns herr k wish
    cases hm : me (dOf env) with
    | stuck => exact absurd hm hns
    | err x => exact wish x hm
    | val d =>
      intro v H' F1 bs e g f rf o
      have pin : ∀ a ∈ as, ∃ o, F1 a = some o ∧ Cell o := fun a ha => by
        obtain ⟨o', ho', c⟩ := hc a ha
        exact ⟨o', g.ex a o' (by unfold plus; rw [if_pos ha]; exact ho'), c⟩
      have ff : Ex F (U.less F1 as) := fun a u hu => by
        have na : a ∉ as := fun ha => by
          rw [hn a ha] at hu
          cases hu
        unfold U.less
        rw [if_neg na]
        exact g.ex a u (by unfold plus; rw [if_neg na]; exact hu)
      have gg : Gr H F (U.less F1 as) := ⟨ff, fun a h1 h2 => by
        unfold U.less at h2
        split at h2
        · exact absurd rfl h2
        · rename_i na
          exact g.new a (by unfold plus; rw [if_neg na]; exact h1) h2⟩
      have rf' := rf.less pin hzf
      refine k d v H' (U.less F1 as) bs hm e ff (R.mono ff fun a _ o h => e a o h) rf' ⟨⟨fun a => ?_, fun a ha => ?_⟩, S.bh.trans e, S.gr.trans gg S.bh, fun a u hu => ?_⟩ fun a ha => (o.fr a ha).1
      · rw [List.count_append]
        have h1 := S.own.one a
        have h2 := o.one a
        by_cases ha : a ∈ as
        · obtain ⟨o', ho', _⟩ := hc a ha
          have : bs.count a = 0 := List.count_eq_zero.mpr fun hb => by
            rw [(o.fr a hb).1] at ho'
            cases ho'
          omega
        · have : as.count a = 0 := List.count_eq_zero.mpr ha
          omega
      · rcases List.mem_append.mp ha with ha | ha
        · exact ⟨(S.own.fr a ha).1, by unfold U.less; rw [if_pos ha]⟩
        · refine ⟨ex_none S.bh (o.fr a ha).1, ?_⟩
          unfold U.less
          split
          · rfl
          · exact (o.fr a ha).2
      · unfold U.less at hu
        split at hu
        · cases hu
        · exact f a u hu
theorem Sta.eval {b : Bool} {r : Fr} {me : ME} {σ : L2.St} {H : Hp} {env : Env} {Q : VK} (hb : b = true ∨ r.zf = true) (S : Sta X.K B F0 H σ env) (hns : me (vw b env) ≠ .stuck)
    (herr : ∀ x, me (vw b env) = .err x → ∀ H', Sta X.K B F0 H' σ env → ∀ C, X.mg x = some (.ref C) → W (.ref C) none σ H')
    (k : ∀ d v H' F' as bs, me (vw b env) = .val d → EnvR X.K F' H' σ env as → RF X.K F' H' r v d bs → Stt X.K B F0 F' H' (as ++ bs) → (∀ a ∈ bs, H a = none) → Q v H') : tE X W r me σ H Q := by
  obtain ⟨F, as, R, S⟩ := S
  exact Stt.eval hb R S hns herr fun d v H' F' bs h1 _ _ h2 h3 h4 h5 => k d v H' F' as bs h1 h2 h3 h4 h5
end

/-! ### statements -/
inductive OS where
  | stuck | next (e : Env) | ret (d : D) | brk (e : Env) | cont (e : Env) | err (c : Str) (e : Env)
abbrev MS := Env → OS
/-- what a body hands back: of the form R, new to the caller -/
def RetOk (K : PySem.W.Frag) (B F0 : Hp) (R : Fr) (d : D) (v : V) (H : Hp) : Prop := ∃ F as, RF K F H R v d as ∧ Own B F as ∧ Ex B H ∧ Gr B F0 F ∧ Ex F H
def EndS (X : Cx) (W : WX) (B F0 : Hp) (R : Fr) (D : Ends) : OS → Prop
  | .stuck => False
  | .next e => ∀ σ H, Sta X.K B F0 H σ e → D.nx σ H
  | .brk e => ∀ σ H, Sta X.K B F0 H σ e → D.bk σ H
  | .cont e => ∀ σ H, Sta X.K B F0 H σ e → D.ct σ H
  | .ret d => ∀ v H, RetOk X.K B F0 R d v H → D.rt v H
  | .err x e => ∀ σ H, Sta X.K B F0 H σ e → ∀ C, X.mg x = some (.ref C) → W (.ref C) none σ H
def tS (X : Cx) (W : WX) (B : Hp) (R : Fr) (ms : MS) : TS := fun D σ H => ∃ F0 env, Sta X.K B F0 H σ env ∧ EndS X W B F0 R D (ms env)
/-- THE JUDGEMENT of a statement, of a block -/
def SS (X : Cx) (W : WX) (B : Hp) (R : Fr) (st : Stmt) (ms : MS) : Prop := PS X st (tS X W B R ms)
def SSs (X : Cx) (W : WX) (B : Hp) (R : Fr) (st : List Stmt) (ms : MS) : Prop := PSs X st (tS X W B R ms)
def bindS (o : OS) (f : Env → OS) : OS := match o with
  | .next e => f e
  | o => o
def mSeq (a b : MS) : MS := fun env => bindS (a env) b
def mNext : MS := fun env => .next env
section
variable {X : Cx} {W : WX} {B F0 : Hp} {R : Fr}
theorem EndS.seq {D : Ends} {o : OS} {f : MS} (h : EndS X W B F0 R D (bindS o f)) : EndS X W B F0 R { D with nx := tS X W B R f D } o := by
  cases o with
  | stuck => exact h
  | next e => exact fun σ H S => ⟨F0, e, S, h⟩
  | ret d => exact h
  | brk e => exact h
  | cont e => exact h
  | err x e => exact h
theorem s_nil : SSs X W B R [] mNext := PSs.weak pss_nil fun D σ H ⟨F0, env, S, h⟩ => h σ H S
theorem s_cons {st : Stmt} {rest : List Stmt} {a b : MS} (ha : SS X W B R st a) (hb : SSs X W B R rest b) : SSs X W B R (st :: rest) (mSeq a b) :=
  PSs.weak (pss_cons ha hb) fun D σ H ⟨F0, env, S, h⟩ => ⟨F0, env, S, EndS.seq h⟩
theorem s_one {st : Stmt} {a : MS} (ha : SS X W B R st a) : SSs X W B R [st] a := pss_one ha
def mPass : MS := fun env => .next env
def mBrk : MS := fun env => .brk env
def mCont : MS := fun env => .cont env
theorem s_pass {pos : Pos} : SS X W B R (.Pass pos) mPass := PS.weak ps_pass fun D σ H ⟨F0, env, S, h⟩ => h σ H S
theorem s_brk {pos : Pos} : SS X W B R (.Break pos) mBrk := PS.weak ps_break fun D σ H ⟨F0, env, S, h⟩ => h σ H S
theorem s_cont {pos : Pos} : SS X W B R (.Continue pos) mCont := PS.weak ps_continue fun D σ H ⟨F0, env, S, h⟩ => h σ H S
/-- of an expression's outcome -/
def onE (o : OE) (env : Env) (f : D → OS) : OS := match o with
  | .val d => f d
  | .stuck => .stuck
  | .err x => .err x env
/-- x = e; b: e does not look at what is the frame's own -/
def mAsg (b : Bool) (i : Nat) (r : Fr) (me : ME) : MS := fun env => onE (me (vw b env)) env fun d => if i < env.length then .next (env.set i (some (r, d))) else .stuck
theorem s_asg (b : Bool) {i : Nat} {x : Str} {e : Expr} {pos pos' : Pos} {r : Fr} {me : ME} (hN : X.N.Nodup) (hi : X.N[i]? = some x) (hx : Loc X.env.scope x) (he : SE X W r e me) (hb : b = true ∨ r.zf = true := by first | exact .inl rfl | exact .inr rfl) (hs : swapsWith e (some (.Name x pos')) pos.line X.env = pure false := by rfl)
    (hf : X.fn x = true ∨ X.env.scope.names.lookup x = some .local := by first | exact .inl rfl | exact .inr rfl | assumption) : SS X W B R (.Assign [.Name x pos'] e pos) (mAsg b i r me) :=
  PS.weak (ps_set hN hi hx he hs hf) fun D σ H ⟨F0, env, S, h⟩ => by
    unfold mAsg at h
    refine Sta.eval hb S (fun z => ?_) (fun y hy H' S' C hC => ?_) fun d v H' F' as bs hm R1 rf S1 _ => ?_
    · rw [z] at h; exact h
    · rw [hy] at h; exact h σ H' S' C hC
    · rw [hm] at h
      dsimp only [onE] at h
      split at h
      · rename_i hi
        obtain ⟨cs, h1, h2⟩ := R1.set rf hi
        exact h _ _ ⟨F', cs, h1, S1.own.sub (fun a => by rw [List.count_append]; exact h2 a), S1.bh, S1.gr, S1.fh⟩
      · exact h.elim
def mExpr (b : Bool) (me : ME) : MS := fun env => onE (me (vw b env)) env fun _ => .next env
theorem Stt.left {K : PySem.W.Frag} {F H : Hp} {as bs : List Addr} (S : Stt K B F0 F H (as ++ bs)) : Stt K B F0 F H as := ⟨S.own.sub (fun a => by rw [List.count_append]; omega), S.bh, S.gr, S.fh⟩
/-- e; its value dropped -/
theorem s_expr {e : Expr} {pos : Pos} {r : Fr} {me : ME} (he : SE X W r e me) (hs : swapsWith e none pos.line X.env = pure false := by rfl) : SS X W B R (.Expr e pos) (mExpr false (mN me)) :=
  PS.weak (ps_expr he.toN hs) fun D σ H ⟨F0, env, S, h⟩ => by
    unfold mExpr at h
    refine Sta.eval (b := false) (.inr rfl) S (fun z => ?_) (fun y hy H' S' C hC => ?_) fun d v H' F' as bs hm R1 rf S1 _ => ?_
    · rw [z] at h; exact h
    · rw [hy] at h; exact h σ H' S' C hC
    · rw [hm] at h
      exact h _ _ ⟨F', as, R1, S1.left⟩
theorem s_doc {x j pos pos'} : SS X W B R (.Expr (.Constant (.str x) j pos) pos') mNext := PS.weak ps_doc fun D σ H ⟨F0, env, S, h⟩ => h σ H S
/-- a body ends: all is handed on -/
def mRet (me : ME) : MS := fun env => onE (me (dOf env)) env fun d => .ret d
/-- what is read of the frame is no longer the frame's own: r is what the expression makes new, R what the def promises -/
theorem s_ret {e : Expr} {pos : Pos} {me : ME} (he : SE X W R e me) : SS X W B R (.Return (some e) pos) (mRet me) :=
  PS.weak (ps_ret he) fun D σ H ⟨F0, env, S0, h⟩ => by
    obtain ⟨F, as, R0, S⟩ := id S0
    have hn : ∀ a ∈ as, F a = none := fun a ha => (S.own.fr a ha).2
    refine ⟨plus F H as, dOf env, plus_sub S.fh, R0.dz hn, ?_⟩
    unfold mRet at h
    cases hm : me (dOf env) with
    | stuck => rw [hm] at h; exact h
    | err x =>
      rw [hm] at h
      exact fun H' e C hC => h σ H' ⟨F, as, R0.mono (Ex.refl _) fun a _ o h => e a o h, S.own, S.bh.trans e, S.gr, S.fh.trans e⟩ C hC
    | val d =>
      rw [hm] at h
      intro v H' F1 bs e g f rf o
      exact h v H' ⟨F1, bs, rf, ⟨o.one, fun a ha => ⟨ex_none S.bh (o.fr a ha).1, (o.fr a ha).2⟩⟩, S.bh.trans e, (S.gr.trans (plus_gr (B := B) ⟨S.own.one, S.own.fr⟩) (Ex.refl _)).trans g S.bh, f⟩
def mRetN : MS := fun _ => .ret .non
theorem s_retN {pos : Pos} (hR : R = .z ∨ R = .n := by first | exact .inl rfl | exact .inr rfl) : SS X W B R (.Return none pos) mRetN := PS.weak ps_retN fun D σ H ⟨F0, env, S, h⟩ => by
  obtain ⟨F, as, R0, S⟩ := S
  refine h .non H ⟨F, [], ?_, .nil, S.bh, S.gr, S.fh⟩
  rcases hR with rfl | rfl
  · exact .z .non
  · exact .n .non rfl
end

/-! ### tests -/
section
variable {X : Cx} {W : WX}
def PostT (X : Cx) (W : WX) (σ : L2.St) (Q : Bool → Hp → Prop) (H : Hp) : OE → Prop
  | .val (.bl b) => ∀ H', Ex H H' → Q b H'
  | .err x => Wish X W σ H x
  | _ => False
theorem PostT.up {σ : L2.St} {Q : Bool → Hp → Prop} {H H1 : Hp} {o : OE} (h : PostT X W σ Q H o) (e : Ex H H1) : PostT X W σ Q H1 o := by
  cases o with
  | stuck => exact h
  | val d =>
    cases d with
    | bl b => exact fun H' e' => h H' (e.trans e')
    | _ => exact h
  | err x => exact fun H' e' => h H' (e.trans e')
def tT (X : Cx) (W : WX) (me : ME) : TT := fun σ H Q => ∃ F ev, Ex F H ∧ EnvZ X.K F σ ev ∧ PostT X W σ Q H (me ev)
def ST (X : Cx) (W : WX) (e : Expr) (me : ME) : Prop := PT X e (tT X W me)
/-- a value's reading under a test's -/
theorem t_test {me : ME} {σ : L2.St} {H : Hp} {Q : Bool → Hp → Prop} (h : tT X W me σ H Q) : tE X W .z me σ H fun x H1 => ∃ c, x = .bl c ∧ Q c H1 := by
  obtain ⟨F, ev, hF, hz, hp⟩ := h
  refine ⟨F, ev, hF, hz, ?_⟩
  cases hm : me ev with
  | stuck => rw [hm] at hp; exact hp
  | err x => rw [hm] at hp; exact hp
  | val d =>
    rw [hm] at hp
    cases d with
    | bl b =>
      intro v H' F' as e g f rf o
      cases rf with
      | z hr =>
        cases hr
        exact ⟨b, rfl, hp H' e⟩
    | _ => exact hp.elim
theorem st_val {e : Expr} {r : Fr} {me : ME} (h : SE X W r e me) (he : ∀ whole, isTrue e X.env whole = (do let v ← whole; standAt e.pos; holding [v] (truthy v)) := by intro _; rfl) : ST X W e me := PT.weak (pt_val h.toZ he) fun _ _ _ h => t_test h
theorem st_cmp {a b : Expr} {pos : Pos} {op : CmpOp} {R : R2} {r ra rb : Fr} {f : D → D → OE} {ma mb : ME} (ho : OpR X (compareOp op) R) (hR : OpD X W r R f) (ha : SE X W ra a ma) (hb : SE X W rb b mb) (hm : behindInMarks op b = false) : ST X W (.Compare a [op] [b] pos) (m2 f ma mb) :=
  PT.weak (pt_cmpR ho ha.toZ hb.toZ hm) fun σ H Q h => by
    have h2 := t_test h
    have h3 : tE X W r (m2 f ma mb) σ H fun x H1 => ∃ c, x = .bl c ∧ Q c H1 := by
      obtain ⟨F, ev, hF, hz, hp⟩ := h2
      refine ⟨F, ev, hF, hz, ?_⟩
      cases hm : m2 f ma mb ev with
      | stuck => rw [hm] at hp; exact hp
      | err x => rw [hm] at hp; exact hp
      | val d => rw [hm] at hp; exact PostE.frz hp
    exact t_op hR σ H _ h3
/-- a test, then the rest -/
def mAnd (ma mb : ME) : ME := fun ev => match ma ev with
  | .val (.bl true) => mb ev
  | .val (.bl false) => .val (.bl false)
  | .err x => .err x
  | _ => .stuck
def mOr (ma mb : ME) : ME := fun ev => match ma ev with
  | .val (.bl false) => mb ev
  | .val (.bl true) => .val (.bl true)
  | .err x => .err x
  | _ => .stuck
def fNot : D → OE
  | .bl b => .val (.bl (!b))
  | _ => .stuck
def mIfE (mc ma mb : ME) : ME := fun ev => match mc ev with
  | .val (.bl true) => ma ev
  | .val (.bl false) => mb ev
  | .err x => .err x
  | _ => .stuck
theorem sw_and1 {a : Expr} {pos : Pos} {ma : ME} (h : ST X W a ma) : PW X (.BoolOp .And [a] pos) (tT X W ma) := pw_and1 h
theorem sw_or1 {a : Expr} {pos : Pos} {ma : ME} (h : ST X W a ma) : PW X (.BoolOp .Or [a] pos) (tT X W ma) := pw_or1 h
theorem t_and {ma mb : ME} : ∀ σ H Q, tT X W (mAnd ma mb) σ H Q → tAnd (tT X W ma) (tT X W mb) σ H Q := fun σ H Q ⟨F, ev, hF, hz, hp⟩ => by
  refine ⟨F, ev, hF, hz, ?_⟩
  unfold mAnd at hp
  cases hm : ma ev with
  | stuck => rw [hm] at hp; exact hp
  | err x => rw [hm] at hp; exact hp
  | val d =>
    rw [hm] at hp
    cases d with
    | bl b =>
      intro H' e
      cases b with
      | true =>
        rw [if_pos rfl]
        exact ⟨F, ev, hF.trans e, hz, PostT.up hp e⟩
      | false =>
        rw [if_neg Bool.false_ne_true]
        exact hp H' e
    | _ => exact hp
theorem t_or {ma mb : ME} : ∀ σ H Q, tT X W (mOr ma mb) σ H Q → tOr (tT X W ma) (tT X W mb) σ H Q := fun σ H Q ⟨F, ev, hF, hz, hp⟩ => by
  refine ⟨F, ev, hF, hz, ?_⟩
  unfold mOr at hp
  cases hm : ma ev with
  | stuck => rw [hm] at hp; exact hp
  | err x => rw [hm] at hp; exact hp
  | val d =>
    rw [hm] at hp
    cases d with
    | bl b =>
      intro H' e
      cases b with
      | true =>
        rw [if_pos rfl]
        exact hp H' e
      | false =>
        rw [if_neg Bool.false_ne_true]
        exact ⟨F, ev, hF.trans e, hz, PostT.up hp e⟩
    | _ => exact hp
theorem sw_and {a b : Expr} {rest : List Expr} {pos : Pos} {ma mb : ME} (ha : ST X W a ma) (hb : PW X (.BoolOp .And (b :: rest) pos) (tT X W mb)) : PW X (.BoolOp .And (a :: b :: rest) pos) (tT X W (mAnd ma mb)) := PW.weak (pw_and ha hb) t_and
theorem sw_or {a b : Expr} {rest : List Expr} {pos : Pos} {ma mb : ME} (ha : ST X W a ma) (hb : PW X (.BoolOp .Or (b :: rest) pos) (tT X W mb)) : PW X (.BoolOp .Or (a :: b :: rest) pos) (tT X W (mOr ma mb)) := PW.weak (pw_or ha hb) t_or
theorem st_w {e : Expr} {ma : ME} (h : PW X e (tT X W ma)) : ST X W e ma := h.pt
theorem st_not {a : Expr} {pos : Pos} {ma : ME} (h : ST X W a ma) : ST X W (.UnaryOp .Not a pos) (m1 fNot ma) := PT.weak (pt_not h) fun σ H Q ⟨F, ev, hF, hz, hp⟩ => by
  refine ⟨F, ev, hF, hz, ?_⟩
  unfold m1 bindE at hp
  cases hm : ma ev with
  | stuck => rw [hm] at hp; exact hp
  | err x => rw [hm] at hp; exact hp
  | val d =>
    rw [hm] at hp
    cases d with
    | bl b => exact hp
    | _ => exact hp
/-! .. as values -/
theorem e_one {op : BoolOp} {a : Expr} {pos : Pos} {r : Fr} {ma : ME} (h : SE X W r a ma) : SE X W .z (.BoolOp op [a] pos) ma := pe_one h.toZ
theorem e_and {a b : Expr} {rest : List Expr} {pos : Pos} {ra rb : Fr} {ma mb : ME} (ha : SE X W ra a ma) (hb : SE X W rb (.BoolOp .And (b :: rest) pos) mb) : SE X W .z (.BoolOp .And (a :: b :: rest) pos) (mAnd ma mb) :=
  PE.weak (pe_and ha.toZ hb.toZ) fun σ H Q ⟨F, ev, hF, hz, hp⟩ => by
    refine ⟨F, ev, hF, hz, ?_⟩
    unfold mAnd at hp
    cases hm : ma ev with
    | stuck => rw [hm] at hp; exact hp
    | err x => rw [hm] at hp; exact hp
    | val d =>
      rw [hm] at hp
      cases d with
      | bl b =>
        intro v H' F' as e g f rf o
        cases rf with
        | z hr =>
          cases hr
          refine ⟨b, rfl, ?_⟩
          cases b with
          | true => exact ⟨F', ev, f, hz.mono g.ex, Post.up hp g e⟩
          | false => exact post_z f (Post.up hp g e) (.bl false)
      | _ => exact hp.elim
theorem e_or {a b : Expr} {rest : List Expr} {pos : Pos} {ra rb : Fr} {ma mb : ME} (ha : SE X W ra a ma) (hb : SE X W rb (.BoolOp .Or (b :: rest) pos) mb) : SE X W .z (.BoolOp .Or (a :: b :: rest) pos) (mOr ma mb) :=
  PE.weak (pe_or ha.toZ hb.toZ) fun σ H Q ⟨F, ev, hF, hz, hp⟩ => by
    refine ⟨F, ev, hF, hz, ?_⟩
    unfold mOr at hp
    cases hm : ma ev with
    | stuck => rw [hm] at hp; exact hp
    | err x => rw [hm] at hp; exact hp
    | val d =>
      rw [hm] at hp
      cases d with
      | bl b =>
        intro v H' F' as e g f rf o
        cases rf with
        | z hr =>
          cases hr
          refine ⟨b, rfl, ?_⟩
          cases b with
          | true => exact post_z f (Post.up hp g e) (.bl true)
          | false => exact ⟨F', ev, f, hz.mono g.ex, Post.up hp g e⟩
      | _ => exact hp.elim
theorem e_not {a : Expr} {pos : Pos} {ra : Fr} {ma : ME} (ha : SE X W ra a ma) : SE X W .n (.UnaryOp .Not a pos) (m1 fNot ma) :=
  PE.weak (pe_not ha.toZ) fun σ H Q ⟨F, ev, hF, hz, hp⟩ => seqE hF hz hp fun d v H' F' hm e g f hr hz' p => by
    cases hr <;> first | exact p.elim | skip
    exact ⟨_, rfl, post_bl f p⟩
theorem e_ifE {c a b : Expr} {pos : Pos} {r : Fr} {mc ma mb : ME} (hc : ST X W c mc) (ha : SE X W r a ma) (hb : SE X W r b mb) : SE X W r (.IfExp c a b pos) (mIfE mc ma mb) :=
  PE.weak (pe_ifExp hc ha hb) fun σ H Q ⟨F, ev, hF, hz, hp⟩ => by
    refine ⟨F, ev, hF, hz, ?_⟩
    unfold mIfE at hp
    cases hm : mc ev with
    | stuck => rw [hm] at hp; exact hp
    | err x => rw [hm] at hp; exact hp
    | val d =>
      rw [hm] at hp
      cases d with
      | bl b =>
        intro H' e
        cases b with
        | true =>
          rw [if_pos rfl]
          exact ⟨F, ev, hF.trans e, hz, Post.up hp (Gr.refl _ _) e⟩
        | false =>
          rw [if_neg Bool.false_ne_true]
          exact ⟨F, ev, hF.trans e, hz, Post.up hp (Gr.refl _ _) e⟩
      | _ => exact hp
/-! a < b < c -/
def mChain (f g : D → D → OE) (ma mb mc : ME) : ME := fun ev => bindE (ma ev) fun x => bindE (mb ev) fun y => match f x y with
  | .val (.bl true) => bindE (mc ev) fun z => g y z
  | .val (.bl false) => .val (.bl false)
  | _ => .stuck
/-- a comparison of values, told as a bool -/
def CmpD (X : Cx) (R : R2) (f : D → D → OE) : Prop := ∀ F H x y dx dy Q, Ex F H → Rep X.K F x dx → Rep X.K F y dy → ∀ b, f dx dy = .val (.bl b) → Q (.bl b) H → R x y H Q
theorem t_chain {R R' : R2} {f g : D → D → OE} {ma mb mc : ME} (h1 : CmpD X R f) (h2 : CmpD X R' g) (hg : ∀ x y, g x y = .stuck ∨ ∃ b, g x y = .val (.bl b)) : ∀ σ H Q, tE X W .n (mChain f g ma mb mc) σ H Q → tChain R R' (tE X W .z ma) (tE X W .z mb) (tE X W .z mc) σ H Q := fun σ H Q ⟨F, ev, hF, hz, hp⟩ =>
  seqE hF hz hp fun dx v H1 F1 _ e1 g1 f1 r1 z1 p1 => seqE f1 z1 p1 fun dy w H2 F2 _ e2 g2 f2 r2 z2 p2 => by
    cases hb : f dx dy with
    | stuck => rw [hb] at p2; exact p2.elim
    | err x => rw [hb] at p2; exact p2.elim
    | val d =>
      rw [hb] at p2
      cases d with
      | bl b =>
        refine h1 F2 H2 v w dx dy _ f2 (r1.mono g2.ex) r2 b hb ⟨b, rfl, ?_⟩
        cases b with
        | true =>
          rw [if_pos rfl]
          exact seqE f2 z2 p2 fun dz u H3 F3 _ e3 g3 f3 r3 z3 p3 => by
            rcases hg dy dz with hq | ⟨k, hq⟩
            · rw [hq] at p3; exact p3.elim
            · rw [hq] at p3
              exact h2 F3 H3 w u dy dz _ f3 (r2.mono g3.ex) r3 k hq (post_bl f3 p3)
        | false =>
          rw [if_neg Bool.false_ne_true]
          exact post_bl f2 p2
      | _ => exact p2.elim
theorem e_chain {a b c : Expr} {pos : Pos} {op op' : CmpOp} {R R' : R2} {ra rb rc : Fr} {f g : D → D → OE} {ma mb mc : ME} (ho : OpR X (compareOp op) R) (ho' : OpR X (compareOp op') R') (h1 : CmpD X R f) (h2 : CmpD X R' g) (hg : ∀ x y, g x y = .stuck ∨ ∃ b, g x y = .val (.bl b))
    (ha : SE X W ra a ma) (hb : SE X W rb b mb) (hc : SE X W rc c mc) (hm : lastMarks [op, op'] [b, c] = false := by with_unfolding_all rfl) : SE X W .n (.Compare a [op, op'] [b, c] pos) (mChain f g ma mb mc) := PE.weak (pe_chain ho ho' ha.toZ hb.toZ hc.toZ hm) (t_chain h1 h2 hg)
theorem st_chain {a b c : Expr} {pos : Pos} {op op' : CmpOp} {R R' : R2} {ra rb rc : Fr} {f g : D → D → OE} {ma mb mc : ME} (ho : OpR X (compareOp op) R) (ho' : OpR X (compareOp op') R') (h1 : CmpD X R f) (h2 : CmpD X R' g) (hg : ∀ x y, g x y = .stuck ∨ ∃ b, g x y = .val (.bl b))
    (ha : SE X W ra a ma) (hb : SE X W rb b mb) (hc : SE X W rc c mc) (hm : lastMarks [op, op'] [b, c] = false := by with_unfolding_all rfl) : ST X W (.Compare a [op, op'] [b, c] pos) (mChain f g ma mb mc) :=
  PT.weak (pt_chain ho ho' ha.toZ hb.toZ hc.toZ hm) fun σ H Q h => by
    have h2' := t_test h
    refine t_chain h1 h2 hg σ H _ ?_
    obtain ⟨F, ev, hF, hz, hp⟩ := h2'
    refine ⟨F, ev, hF, hz, ?_⟩
    cases hm : mChain f g ma mb mc ev with
    | stuck => rw [hm] at hp; exact hp
    | err x => rw [hm] at hp; exact hp
    | val d => rw [hm] at hp; exact PostE.frz hp
/-! ints' comparisons -/
def fLt : D → D → OE := fI fun i j => .val (.bl (decide (i < j)))
def fLe : D → D → OE := fI fun i j => .val (.bl (decide (i ≤ j)))
def fGt : D → D → OE := fI fun i j => .val (.bl (decide (j < i)))
def fGe : D → D → OE := fI fun i j => .val (.bl (decide (j ≤ i)))
theorem cmpD_I {g : Int → Int → Bool} : CmpD X (rI0 fun i j => .bl (g i j)) (fI fun i j => .val (.bl (g i j))) := fun F H x y dx dy Q hF rx ry b hb q => by
  cases rx <;> first | (simp [fI] at hb; done) | skip
  cases ry <;> first | (simp [fI] at hb; done) | skip
  simp only [fI, OE.val.injEq, D.bl.injEq] at hb
  exact ⟨_, _, rfl, rfl, by subst hb; exact q⟩
theorem tot_I {g : Int → Int → Bool} : ∀ x y, (fI fun i j => OE.val (.bl (g i j))) x y = .stuck ∨ ∃ b, (fI fun i j => OE.val (.bl (g i j))) x y = .val (.bl b) := fun x y => by
  cases x <;> cases y <;> first | exact .inl rfl | exact .inr ⟨_, rfl⟩
section
variable {a b c : Expr} {pos : Pos} {ra rb rc : Fr} {ma mb mc : ME}
theorem e_lt (ha : SE X W ra a ma) (hb : SE X W rb b mb) : SE X W .n (.Compare a [.Lt] [b] pos) (m2 fLt ma mb) := e_cmp op_lt opD_B0 ha hb (nomark _)
theorem e_le (ha : SE X W ra a ma) (hb : SE X W rb b mb) : SE X W .n (.Compare a [.LtE] [b] pos) (m2 fLe ma mb) := e_cmp op_le opD_B0 ha hb (nomark _)
theorem e_gt (ha : SE X W ra a ma) (hb : SE X W rb b mb) : SE X W .n (.Compare a [.Gt] [b] pos) (m2 fGt ma mb) := e_cmp op_gt opD_B0 ha hb (nomark _)
theorem e_ge (ha : SE X W ra a ma) (hb : SE X W rb b mb) : SE X W .n (.Compare a [.GtE] [b] pos) (m2 fGe ma mb) := e_cmp op_ge opD_B0 ha hb (nomark _)
theorem st_lt (ha : SE X W ra a ma) (hb : SE X W rb b mb) : ST X W (.Compare a [.Lt] [b] pos) (m2 fLt ma mb) := st_cmp op_lt opD_B0 ha hb (nomark _)
theorem st_le (ha : SE X W ra a ma) (hb : SE X W rb b mb) : ST X W (.Compare a [.LtE] [b] pos) (m2 fLe ma mb) := st_cmp op_le opD_B0 ha hb (nomark _)
theorem st_gt (ha : SE X W ra a ma) (hb : SE X W rb b mb) : ST X W (.Compare a [.Gt] [b] pos) (m2 fGt ma mb) := st_cmp op_gt opD_B0 ha hb (nomark _)
theorem st_ge (ha : SE X W ra a ma) (hb : SE X W rb b mb) : ST X W (.Compare a [.GtE] [b] pos) (m2 fGe ma mb) := st_cmp op_ge opD_B0 ha hb (nomark _)
theorem e_lele (ha : SE X W ra a ma) (hb : SE X W rb b mb) (hc : SE X W rc c mc) (hm : lastMarks [.LtE, .LtE] [b, c] = false := by with_unfolding_all rfl) : SE X W .n (.Compare a [.LtE, .LtE] [b, c] pos) (mChain fLe fLe ma mb mc) := e_chain op_le op_le cmpD_I cmpD_I tot_I ha hb hc hm
theorem e_lelt (ha : SE X W ra a ma) (hb : SE X W rb b mb) (hc : SE X W rc c mc) (hm : lastMarks [.LtE, .Lt] [b, c] = false := by with_unfolding_all rfl) : SE X W .n (.Compare a [.LtE, .Lt] [b, c] pos) (mChain fLe fLt ma mb mc) := e_chain op_le op_lt cmpD_I cmpD_I tot_I ha hb hc hm
theorem e_ltle (ha : SE X W ra a ma) (hb : SE X W rb b mb) (hc : SE X W rc c mc) (hm : lastMarks [.Lt, .LtE] [b, c] = false := by with_unfolding_all rfl) : SE X W .n (.Compare a [.Lt, .LtE] [b, c] pos) (mChain fLt fLe ma mb mc) := e_chain op_lt op_le cmpD_I cmpD_I tot_I ha hb hc hm
theorem st_lele (ha : SE X W ra a ma) (hb : SE X W rb b mb) (hc : SE X W rc c mc) (hm : lastMarks [.LtE, .LtE] [b, c] = false := by with_unfolding_all rfl) : ST X W (.Compare a [.LtE, .LtE] [b, c] pos) (mChain fLe fLe ma mb mc) := st_chain op_le op_le cmpD_I cmpD_I tot_I ha hb hc hm
theorem st_lelt (ha : SE X W ra a ma) (hb : SE X W rb b mb) (hc : SE X W rc c mc) (hm : lastMarks [.LtE, .Lt] [b, c] = false := by with_unfolding_all rfl) : ST X W (.Compare a [.LtE, .Lt] [b, c] pos) (mChain fLe fLt ma mb mc) := st_chain op_le op_lt cmpD_I cmpD_I tot_I ha hb hc hm
theorem st_ltle (ha : SE X W ra a ma) (hb : SE X W rb b mb) (hc : SE X W rc c mc) (hm : lastMarks [.Lt, .LtE] [b, c] = false := by with_unfolding_all rfl) : ST X W (.Compare a [.Lt, .LtE] [b, c] pos) (mChain fLt fLe ma mb mc) := st_chain op_lt op_le cmpD_I cmpD_I tot_I ha hb hc hm
/-! ints' arithmetic -/
instance (i j : Int) : Decidable (CMul i j) := by unfold CMul; infer_instance
instance (i j : Int) : Decidable (CMulW i j) := by unfold CMulW; infer_instance
instance (i j : Int) : Decidable (CPow i j) := by unfold CPow; infer_instance
def fAdd : D → D → OE := fI fun i j => .val (.int (i + j))
def fSub : D → D → OE := fI fun i j => .val (.int (i - j))
def fMul : D → D → OE := fI fun i j => if CMul i j ∨ CMulW i j then .val (.int (i * j)) else .stuck
def fDiv : D → D → OE := fI fun i j => if 0 < j ∧ j.natAbs.log2 < 9000 then .val (.int (i / j)) else .stuck
def fMod : D → D → OE := fI fun i j => if 0 < j then .val (.int (i % j)) else .stuck
def fPow : D → D → OE := fI fun i j => if CPow i j then .val (.int (i ^ j.toNat)) else .stuck
def fShl : D → D → OE := fI fun i j => if CPow i j then .val (.int (i * 2 ^ j.toNat)) else .stuck
def fNeg : D → OE
  | .int i => .val (.int (-i))
  | _ => .stuck
theorem opR_mul2 : OpR X (binaryOp .Mult) (rI (fun i j => CMul i j ∨ CMulW i j) fun i j => .int (i * j)) := opI fun i j _ _ _ _ _ hc q => by
  rcases hc with hc | hc
  · exact PyProof.Rows.mul_int q hc.ok
  · exact PyProof.Rows.mul_int q hc.ok
theorem e_add (ha : SE X W ra a ma) (hb : SE X W rb b mb) : SE X W .n (.BinOp a .Add b pos) (m2 fAdd ma mb) := e_op op_add opD_I0 ha hb
theorem e_sub (ha : SE X W ra a ma) (hb : SE X W rb b mb) : SE X W .n (.BinOp a .Sub b pos) (m2 fSub ma mb) := e_op op_sub opD_I0 ha hb
theorem e_mul (ha : SE X W ra a ma) (hb : SE X W rb b mb) : SE X W .n (.BinOp a .Mult b pos) (m2 fMul ma mb) := e_op opR_mul2 (opD_I fun _ _ h => h) ha hb
theorem e_div (ha : SE X W ra a ma) (hb : SE X W rb b mb) : SE X W .n (.BinOp a .FloorDiv b pos) (m2 fDiv ma mb) := e_op op_fdivW (opD_I fun _ _ h => h) ha hb
theorem e_mod (ha : SE X W ra a ma) (hb : SE X W rb b mb) : SE X W .n (.BinOp a .Mod b pos) (m2 fMod ma mb) := e_op op_mod (opD_I fun _ _ h => h) ha hb
theorem e_pow (ha : SE X W ra a ma) (hb : SE X W rb b mb) : SE X W .n (.BinOp a .Pow b pos) (m2 fPow ma mb) := e_op op_pow (opD_I fun _ _ h => h) ha hb
theorem e_shl (ha : SE X W ra a ma) (hb : SE X W rb b mb) : SE X W .n (.BinOp a .LShift b pos) (m2 fShl ma mb) := e_op op_shl (opD_I fun _ _ h => h) ha hb
theorem e_neg (ha : SE X W ra a ma) : SE X W .n (.UnaryOp .USub a pos) (m1 fNeg ma) := e_un un_neg (fun F H x dx σ Q hF rx hp => by
  cases rx <;> first | exact hp.elim | skip
  exact ⟨_, rfl, post_int hF hp⟩) ha
/-! is None -/
def fIsN (neg : Bool) : D → OE := fun x => match x with
  | .non => .val (.bl (!neg))
  | _ => .val (.bl neg)
theorem isN_rep {K : PySem.W.Frag} {F : Hp} {x : V} {d : D} (h : Rep K F x d) : fIsN false d = .val (.bl (decide (x = .non))) := by
  cases h <;> simp [fIsN]
theorem notN_rep {K : PySem.W.Frag} {F : Hp} {x : V} {d : D} (h : Rep K F x d) : fIsN true d = .val (.bl (!decide (x = .non))) := by
  cases h <;> simp [fIsN]
theorem e_isN {j pos'} (ha : SE X W ra a ma) : SE X W .n (.Compare a [.Is] [.Constant .none j pos'] pos) (m1 (fIsN false) ma) :=
  PE.weak (pe_cmp (pc_isN ha.toZ) rfl) fun σ H Q ⟨F, ev, hF, hz, hp⟩ => seqE hF hz hp fun d v H' F' hm e g f hr hz' p => by
    rw [isN_rep hr] at p
    exact post_bl f p
theorem e_notN {j pos'} (ha : SE X W ra a ma) : SE X W .n (.Compare a [.IsNot] [.Constant .none j pos'] pos) (m1 (fIsN true) ma) :=
  PE.weak (pe_cmp (pc_notN ha.toZ) rfl) fun σ H Q ⟨F, ev, hF, hz, hp⟩ => seqE hF hz hp fun d v H' F' hm e g f hr hz' p => by
    rw [notN_rep hr] at p
    exact post_bl f p
theorem st_isN {j pos'} (ha : SE X W ra a ma) : ST X W (.Compare a [.Is] [.Constant .none j pos'] pos) (m1 (fIsN false) ma) :=
  PT.weak (pt_cmp (pc_isN ha.toZ) rfl) fun σ H Q h => by
    obtain ⟨F, ev, hF, hz, hp⟩ := t_test h
    exact seqE hF hz hp fun d v H' F' hm e g f hr hz' p => by
      rw [isN_rep hr] at p
      exact post_z f p (.bl _)
theorem st_notN {j pos'} (ha : SE X W ra a ma) : ST X W (.Compare a [.IsNot] [.Constant .none j pos'] pos) (m1 (fIsN true) ma) :=
  PT.weak (pt_cmp (pc_notN ha.toZ) rfl) fun σ H Q h => by
    obtain ⟨F, ev, hF, hz, hp⟩ := t_test h
    exact seqE hF hz hp fun d v H' F' hm e g f hr hz' p => by
      rw [notN_rep hr] at p
      exact post_z f p (.bl _)
end
end

/-! ### arguments, displays -/
inductive OA where
  | stuck | vals (ds : List D) | err (c : Str)
abbrev MA := Ev → OA
def PostAO (X : Cx) (W : WX) (σ : L2.St) (Q : List V → Hp → Prop) (F H : Hp) (rs : List Fr) : OA → Prop
  | .stuck => False
  | .vals ds => PostA X.K Q F H rs ds
  | .err x => Wish X W σ H x
def tA (X : Cx) (W : WX) (rs : List Fr) (ma : MA) : TA := fun σ H Q => ∃ F ev, Ex F H ∧ EnvZ X.K F σ ev ∧ PostAO X W σ Q F H rs (ma ev)
def SA (X : Cx) (W : WX) (rs : List Fr) (es : List Expr) (ma : MA) : Prop := PA X es (tA X W rs ma)
def mNil : MA := fun _ => .vals []
def mCons (me : ME) (ma : MA) : MA := fun ev => match me ev with
  | .val d => (match ma ev with
    | .vals ds => .vals (d :: ds)
    | o => o)
  | .stuck => .stuck
  | .err x => .err x
section
variable {X : Cx} {W : WX}
theorem a_nil : SA X W [] [] mNil := PA.weak pa_nil fun σ H Q ⟨F, ev, hF, hz, hp⟩ => hp [] H F [] (Ex.refl _) (Gr.refl _ _) hF .nil .nil
theorem own_app {K : PySem.W.Frag} {F F1 H H1 H2 : Hp} {as bs : List Addr} (e1 : Ex H H1) (e2 : Ex H1 H2) (g : Gr H1 F F1) (ca : ∀ a ∈ as, ∃ o, H1 a = some o) (oa : Own H F as) (ob : Own H1 F1 bs) : Own H F1 (as ++ bs) := by
  have na : ∀ a ∈ as, F1 a = none := fun a ha => by
    cases hq : F1 a with
    | none => rfl
    | some u =>
      have := g.new a (oa.fr a ha).2 (by rw [hq]; simp)
      obtain ⟨o, ho⟩ := ca a ha
      rw [ho] at this
      cases this
  refine ⟨fun a => ?_, fun a ha => ?_⟩
  · rw [List.count_append]
    have h1 := oa.one a
    have h2 := ob.one a
    by_cases ha : a ∈ as
    · obtain ⟨o, ho⟩ := ca a ha
      have : bs.count a = 0 := List.count_eq_zero.mpr fun hb => by
        rw [(ob.fr a hb).1] at ho
        cases ho
      omega
    · have : as.count a = 0 := List.count_eq_zero.mpr ha
      omega
  · rcases List.mem_append.mp ha with ha | ha
    · exact ⟨(oa.fr a ha).1, na a ha⟩
    · exact ⟨ex_none e1 (ob.fr a ha).1, (ob.fr a ha).2⟩
theorem a_cons {e : Expr} {es : List Expr} {r : Fr} {rs : List Fr} {me : ME} {ma : MA} (he : SE X W r e me) (ha : SA X W rs es ma) (hs : starEach (e :: es) X.env = (false, eval e X.env) :: starEach es X.env := by rfl) : SA X W (r :: rs) (e :: es) (mCons me ma) :=
  PA.weak (pa_cons he ha hs) fun σ H Q ⟨F, ev, hF, hz, hp⟩ => by
    refine ⟨F, ev, hF, hz, ?_⟩
    unfold mCons at hp
    cases hm : me ev with
    | stuck => rw [hm] at hp; exact hp
    | err x => rw [hm] at hp; exact hp
    | val d =>
      rw [hm] at hp
      intro v H1 F1 as e1 g1 f1 rf1 o1
      refine ⟨F1, ev, f1, hz.mono g1.ex, ?_⟩
      cases hm2 : ma ev with
      | stuck => rw [hm2] at hp; exact hp
      | err x => rw [hm2] at hp; exact fun H' e' => hp H' (e1.trans e')
      | vals ds =>
        rw [hm2] at hp
        intro vs H2 F2 bs e2 g2 f2 rf2 o2
        refine hp (v :: vs) H2 F2 (as ++ bs) (e1.trans e2) (g1.trans g2 e1) f2 (.cons (rf1.mono g2.ex fun a _ o h => e2 a o h) rf2) (own_app (K := X.K) e1 e2 g2 (fun a ha => ?_) o1 o2)
        obtain ⟨o, ho, _⟩ := rf1.cell a ha
        exact ⟨o, ho⟩
theorem RFs.len {K : PySem.W.Frag} {F H : Hp} : ∀ {rs : List Fr} {vs : List V} {ds : List D} {as : List Addr}, RFs K F H rs vs ds as → rs.length = vs.length ∧ vs.length = ds.length
  | _, _, _, _, .nil => ⟨rfl, rfl⟩
  | _, _, _, _, .cons _ t => by
    have := RFs.len t
    simp [this.1, this.2]
theorem RepL.len {K : PySem.W.Frag} {F : Hp} : ∀ {vs : List V} {ds : List D}, RepL K F vs ds → vs.length = ds.length
  | _, _, .nil => rfl
  | _, _, .cons _ t => by
    have := RepL.len t
    simp [this]
theorem ex_upd {F H : Hp} {p : Addr} {o : HO} (e : Ex F H) (h : F p = none) : Ex F (upd H p o) := Evl.Ex.mut e h
theorem ex_updL {F H : Hp} {p : Addr} {o : HO} (e : Ex F H) : Ex (upd F p o) (upd H p o) := fun a u h => by
  unfold upd at h ⊢
  split
  · rename_i q; rw [if_pos q] at h; exact h
  · rename_i q; rw [if_neg q] at h; exact e a u h
theorem gr_upd {B F : Hp} {p : Addr} {o : HO} (h : B p = none) (hF : F p = none) : Gr B F (upd F p o) := ⟨Evl.Ex.new hF, fun a h1 h2 => by
  unfold upd at h2
  split at h2
  · rename_i q; rw [q]; exact h
  · exact absurd h1 h2⟩
theorem own_sub_none {F H : Hp} {p : Addr} (e : Ex F H) (h : H p = none) : F p = none := ex_none e h
/-- a tuple is made -/
def mTup (ma : MA) : ME := fun ev => match ma ev with
  | .vals ds => if ds.length ≤ 1000 then .val (.tup ds) else .stuck
  | .stuck => .stuck
  | .err x => .err x
def mLst (ma : MA) : ME := fun ev => match ma ev with
  | .vals ds => if ds.length ≤ 1000 then .val (.lst ds) else .stuck
  | .stuck => .stuck
  | .err x => .err x
theorem e_tup {es : List Expr} {x1} {pos : Pos} {rs : List Fr} {ma : MA} (h : SA X W rs es ma) : SE X W (.t rs) (.Tuple es x1 pos) (mTup ma) := PE.weak (pe_tup h) fun σ H Q ⟨F, ev, hF, hz, hp⟩ => by
  refine ⟨F, ev, hF, hz, ?_⟩
  unfold mTup at hp
  cases hm : ma ev with
  | stuck => rw [hm] at hp; exact hp
  | err x => rw [hm] at hp; exact hp
  | vals ds =>
    rw [hm] at hp
    dsimp only at hp
    split at hp
    · rename_i hl
      intro vs H1 F1 as e1 g1 f1 rf o
      refine ⟨by rw [rf.len.2]; exact Nat.le_trans hl (by decide), fun p hp1 => ?_⟩
      have fp : F1 p = none := ex_none f1 hp1
      have np : p ∉ as := fun hm => by
        obtain ⟨o, ho, _⟩ := rf.cell p hm
        rw [hp1] at ho
        cases ho
      refine hp (.ref p) _ (upd F1 p (.tup vs)) as (e1.trans (Evl.Ex.new hp1)) (g1.trans (gr_upd hp1 fp) e1) (ex_updL f1) (.t (.inl (.inl upd_same)) (rf.mono (Evl.Ex.new fp) fun a _ o h => Evl.Ex.new hp1 a o h)) ⟨o.one, fun a ha => ⟨(o.fr a ha).1, ?_⟩⟩
      rw [upd_ne (fun q => np (by rw [← q]; exact ha))]
      exact (o.fr a ha).2
    · exact hp.elim
theorem e_lst {es : List Expr} {pos : Pos} {n : Nat} {r : Fr} {ma : MA} (h : SA X W (List.replicate n r) es ma) : SE X W (.l r) (.List es pos) (mLst ma) := PE.weak (pe_lst h) fun σ H Q ⟨F, ev, hF, hz, hp⟩ => by
  refine ⟨F, ev, hF, hz, ?_⟩
  unfold mLst at hp
  cases hm : ma ev with
  | stuck => rw [hm] at hp; exact hp
  | err x => rw [hm] at hp; exact hp
  | vals ds =>
    rw [hm] at hp
    dsimp only at hp
    split at hp
    · rename_i hl
      intro vs H1 F1 as e1 g1 f1 rf o
      refine ⟨by rw [rf.len.2]; exact Nat.le_trans hl (by decide), fun p hp1 => ?_⟩
      have fp : F1 p = none := ex_none f1 hp1
      have np : p ∉ as := fun hm => by
        obtain ⟨o, ho, _⟩ := rf.cell p hm
        rw [hp1] at ho
        cases ho
      have hn : n = vs.length := by
        have := rf.len.1
        simpa using this
      refine hp (.ref p) _ F1 (p :: as) (e1.trans (Evl.Ex.new hp1)) g1 (f1.trans (Evl.Ex.new hp1)) (.l upd_same (hn ▸ rf.mono (Ex.refl _) fun a _ o h => Evl.Ex.new hp1 a o h)) ⟨fun a => ?_, fun a ha => ?_⟩
      · rw [List.count_cons]
        have h1 := o.one a
        split
        · rename_i q
          have q' : p = a := by simpa using q
          have : as.count a = 0 := List.count_eq_zero.mpr (q' ▸ np)
          omega
        · omega
      · rcases List.mem_cons.mp ha with q | ha
        · rw [q]; exact ⟨ex_none e1 hp1, fp⟩
        · exact o.fr a ha
    · exact hp.elim
/-! ### calls of what is known by values -/
def CallD (X : Cx) (W : WX) (r : Fr) (R : List V → Hp → VK → Prop) (f : List D → OE) : Prop := ∀ F H vs ds σ Q, Ex F H → RepL X.K F vs ds → Post X W σ Q F H r (f ds) → R vs H Q
def mCall (f : List D → OE) (ma : MA) : ME := fun ev => match ma ev with
  | .vals ds => f ds
  | .stuck => .stuck
  | .err x => .err x
theorem seqA {rs : List Fr} {rr : Fr} {ma : MA} {f : List D → OE} {σ : L2.St} {F H : Hp} {ev : Ev} {Q : VK} {R : List V → Hp → Prop} (hF : Ex F H) (hz : EnvZ X.K F σ ev) (hp : Post X W σ Q F H rr (mCall f ma ev))
    (k : ∀ ds vs H' F', Ex H H' → Gr H F F' → Ex F' H' → RepL X.K F' vs ds → EnvZ X.K F' σ ev → Post X W σ Q F' H' rr (f ds) → R vs H') : tA X W rs ma σ H R := by
  refine ⟨F, ev, hF, hz, ?_⟩
  unfold mCall at hp
  cases hm : ma ev with
  | stuck => rw [hm] at hp; exact hp
  | err x => rw [hm] at hp; exact hp
  | vals ds =>
    rw [hm] at hp
    exact PostA.frz fun vs H' F' e g f' hr => k ds vs H' F' e g f' hr (hz.mono g.ex) (Post.up hp g e)
theorem e_callB {x : Str} {id : String} {R : List V → Hp → VK → Prop} {f : List D → OE} {e : Expr} {es : List Expr} {p pos : Pos} {rs : List Fr} {r : Fr} {ma : MA} (hc : CallR X (.builtin id) R) (hR : CallD X W r R f) (hg : Gl X x) (hm : X.mg x = none) (hv : bootBuiltins x = some (.builtin id)) (ha : SA X W rs (e :: es) ma) (hn : x ≠ "__name__" := by decide) (hdb : (x == ("__debug__" : Str)) = false := by decide)
    (he : starEach (e :: es) X.env = (false, eval e X.env) :: starEach es X.env := by rfl) (hpl : (backTo pos (starEach es X.env)).any (·.1) = false := by rfl) : SE X W r (.Call (.Name x p) (e :: es) [] pos) (mCall f ma) :=
  PE.weak (pe_callB hc hg hm hv ha hn hdb he hpl) fun σ H Q ⟨F, ev, hF, hz, hp⟩ => seqA hF hz hp fun ds vs H' F' e g f' hr hz' p' => hR F' H' vs ds σ Q f' hr p'
theorem e_callT {x : Str} {T : String} {R : List V → Hp → VK → Prop} {f : List D → OE} {e : Expr} {es : List Expr} {p pos : Pos} {rs : List Fr} {r : Fr} {ma : MA} (hc : CallR X (.type T) R) (hR : CallD X W r R f) (hg : Gl X x) (hm : X.mg x = none) (hv : bootBuiltins x = some (.type T)) (ha : SA X W rs (e :: es) ma) (hn : x ≠ "__name__" := by decide) (hdb : (x == ("__debug__" : Str)) = false := by decide)
    (he : starEach (e :: es) X.env = (false, eval e X.env) :: starEach es X.env := by rfl) (hpl : (backTo pos (starEach es X.env)).any (·.1) = false := by rfl) : SE X W r (.Call (.Name x p) (e :: es) [] pos) (mCall f ma) :=
  PE.weak (pe_callTy hc hg hm hv ha hn hdb he hpl) fun σ H Q ⟨F, ev, hF, hz, hp⟩ => seqA hF hz hp fun ds vs H' F' e g f' hr hz' p' => hR F' H' vs ds σ Q f' hr p'
/-! ### a def's call -/
/-- THE PROMISE of a def: from values it says what mf says; what it hands back is of the form R -/
def spD (K : PySem.W.Frag) (mg : Str → Option Value) (R : Fr) (mf : List D → OE) : Sp := fun vs H Q E => ∃ F ds, Ex F H ∧ RepL K F vs ds ∧ (match mf ds with
  | .stuck => False
  | .val d => PostE K Q F H R d
  | .err x => ∀ H', Ex H H' → ∀ C, mg x = some (.ref C) → E (.ref C) none H')
theorem e_call {k : Nat} {f : Addr} {fd : FuncData} {ps : List Str} {x : Str} {e : Expr} {es : List Expr} {p pos : Pos} {rs : List Fr} {R : Fr} {ma : MA} {mf : List D → OE} (G : FnOk X.prog X.w X.K X.mg X.base (L2.CX X.prog X.w) k f fd ps (spD X.K X.mg R mf)) (hr : Room k X.A) (hg : Gl X x) (hm : X.mg x = some (.ref f))
    (hk : PySem.W.keepIn X.K (.ref f) = true) (hb : Binds X.K fd ps []) (tk : Takes X W) (ha : SA X W rs (e :: es) ma) (hdb : (x == ("__debug__" : Str)) = false := by decide) (he : starEach (e :: es) X.env = (false, eval e X.env) :: starEach es X.env := by rfl) (hpl : (backTo pos (starEach es X.env)).any (·.1) = false := by rfl) :
    SE X W R (.Call (.Name x p) (e :: es) [] pos) (mCall mf ma) :=
  PE.weak (pe_callS G hr hg hm hk hb (fun σ => passAt tk σ) ha hdb he hpl) fun σ H Q ⟨F, ev, hF, hz, hp⟩ => by
    refine ⟨F, ev, hF, hz, ?_⟩
    unfold mCall at hp
    cases hm : ma ev with
    | stuck => rw [hm] at hp; exact hp
    | err x => rw [hm] at hp; exact hp
    | vals ds =>
      rw [hm] at hp
      dsimp only at hp
      refine PostA.frz fun vs H' F' e g f' hr => ⟨F', ds, f', hr, ?_⟩
      have p' := Post.up hp g e
      cases hq : mf ds with
      | stuck => rw [hq] at p'; exact p'
      | val d => rw [hq] at p'; exact p'
      | err x => rw [hq] at p'; exact p'
end
/-- the frame at the entry -/
def ini : Nat → List D → Env
  | n, d :: ds => some (.z, d) :: ini (n - 1) ds
  | n, [] => List.replicate n none
/-- a def by its body -/
def runF (R : Fr) (n N : Nat) (body : MS) (ds : List D) : OE := if ds.length = n then (match body (ini N ds) with
  | .ret d => .val d
  | .next _ => if R.fz = true then .val .non else .stuck
  | .err x _ => .err x
  | _ => .stuck) else .stuck
theorem runF_len {R : Fr} {n N : Nat} {body : MS} {ds : List D} (h : runF R n N body ds ≠ .stuck) : ds.length = n := by
  unfold runF at h
  split at h
  · assumption
  · exact absurd rfl h
theorem ini_env {K : PySem.W.Frag} {F H : Hp} : ∀ {vs : List V} {ds : List D} {n : Nat}, RepL K F vs ds → vs.length ≤ n → EnvR K F H (vs.map some ++ List.replicate (n - vs.length) none) (ini n ds) []
  | _, _, n, .nil, _ => by
    show EnvR K F H (List.replicate n none) (List.replicate n none) []
    induction n with
    | zero => exact .nil
    | succ n ih => exact .skip (ih (Nat.zero_le _))
  | v :: vs, d :: ds, n, .cons h t, hl => by
    have hl' : vs.length + 1 ≤ n := hl
    have ih := ini_env (n := n - 1) t (by omega) (H := H)
    have e : n - (v :: vs).length = n - 1 - vs.length := by simp; omega
    rw [e]
    exact .slot (.z h) ih
/-- THE RULE of a def -/
theorem fn_ok {P : Program} {w : World} {K : PySem.W.Frag} {mg : Str → Option Value} {base : Heap} {x qual : Str} {st : Stmt} {f : Addr} {fd : FuncData} {N ps : List Str} {k : Nat} {R : Fr} {ms : MS} (F : Fun K x qual st f fd) (S : FnScope N ps (defScope st))
    (hbody : ∀ (cdv : Value) (A : Around) (outer : List PySem.Env) (s : Shared) (H : Hp) (E : XK), Room k (A.deeper (PyProof.Rows.envOfC qual (defScope st) s.heap.objs.size f cdv)) →
      SSs (cxOf (L2.CX P w) P w K mg base N qual (defScope st) f cdv A outer s H E) (fun cls d _ H => E cls d H) H R (defBody st) ms) :
    FnOk P w K mg base (L2.CX P w) (k + 1) f fd ps (spD K mg R (runF R ps.length N.length ms)) := by
  have hpl : ps.length ≤ N.length := by
    have := congrArg List.length S.pre
    rw [List.length_take] at this
    omega
  have hlen : ∀ vs H Q E, spD K mg R (runF R ps.length N.length ms) vs H Q E → vs.length = ps.length := fun vs H Q E h => by
    obtain ⟨F, ds, _, r, h⟩ := h
    rw [r.len]
    refine runF_len (R := R) (N := N.length) (body := ms) fun z => ?_
    rw [z] at h
    exact h
  refine F.okX S hlen (fun cdv A outer s H vs Q E hr h => ?_)
  have hv := hlen vs H Q E h
  obtain ⟨F0, ds, hF, r, h⟩ := h
  refine ⟨_, hbody cdv A outer s H E hr, F0, ini N.length ds, ⟨F0, [], ?_, .nil, Ex.refl _, Gr.refl _ _, hF⟩, ?_⟩
  · exact ini_env r (by omega)
  · unfold runF at h
    rw [if_pos (by rw [← r.len]; exact hv)] at h
    cases hm : ms (ini N.length ds) with
    | stuck => rw [hm] at h; exact h
    | next e =>
      rw [hm] at h
      intro σ H' S'
      obtain ⟨F', as, _, S'⟩ := S'
      by_cases hz : R.fz = true
      · simp only [hz, if_true] at h
        refine h .non H' F' [] S'.bh S'.gr S'.fh ?_ .nil
        cases R with
        | z => exact .z .non
        | n => exact .n .non rfl
        | _ => cases hz
      · simp only [hz] at h
        exact h.elim
    | ret d =>
      rw [hm] at h
      intro v H' hq
      obtain ⟨F', as, rf, o, e, g, f⟩ := hq
      exact h v H' F' as e g f rf o
    | brk e => rw [hm] at h; exact h.elim
    | cont e => rw [hm] at h; exact h.elim
    | err x e =>
      rw [hm] at h
      intro σ H' S' C hC
      obtain ⟨F', as, _, S'⟩ := S'
      exact h H' S'.bh C hC

/-! ### items, slices -/
section
variable {X : Cx} {W : WX} {a b c : Expr} {pos : Pos} {ra rb rc : Fr} {ma mb mc : ME}
theorem RepL.get {K : PySem.W.Frag} {F : Hp} : ∀ {vs : List V} {ds : List D} {i : Nat} {d : D}, RepL K F vs ds → ds[i]? = some d → ∃ v, vs[i]? = some v ∧ Rep K F v d
  | _, _, _, _, .nil, h => by simp at h
  | _, _, 0, _, .cons r _, h => by
    simp at h
    subst h
    exact ⟨_, rfl, r⟩
  | _, _, i + 1, d, .cons _ t, h => by
    obtain ⟨v, h1, h2⟩ := RepL.get (i := i) (d := d) t (by simpa using h)
    exact ⟨v, by simpa using h1, h2⟩
theorem RepL.at {K : PySem.W.Frag} {F : Hp} {vs : List V} {ds : List D} {i : Int} {d : D} (r : RepL K F vs ds) (h : atI ds i = some d) : ∃ v, atI vs i = some v ∧ Rep K F v d := by
  unfold atI at h ⊢
  rw [r.len]
  cases hx : ixN ds.length i with
  | none => rw [hx] at h; cases h
  | some j =>
    rw [hx] at h
    exact r.get h
def fIdx : D → D → OE := fun x y => match x, y with
  | .lst ds, .int i => (match atI ds i with
    | some d => .val d
    | none => .stuck)
  | .tup ds, .int i => (match atI ds i with
    | some d => .val d
    | none => .stuck)
  | .scr ns, .int i => (match atI ns i with
    | some n => .val (.int n)
    | none => .stuck)
  | .str s, .int i => if s.length ≤ 100000 then (match atI s.cps.toList i with
    | some c => .val (.str ⟨#[c]⟩)
    | none => .stuck) else .stuck
  | _, _ => .stuck
theorem atI_map {α β : Type} (f : α → β) (xs : List α) (i : Int) : atI (xs.map f) i = (atI xs i).map f := by
  unfold atI
  rw [List.length_map]
  cases ixN xs.length i with
  | none => rfl
  | some j => simp
theorem sq_of {K : PySem.W.Frag} {F H : Hp} {p : Addr} {xs : List V} (e : Ex F H) (h : F p = some (.lst xs)) : SqL K H p xs := SqL.of (e _ _ h)
theorem opD_idx : OpD X W .z (rIx X.K) fIdx := fun F H x y dx dy σ Q hF rx ry hp => by
  cases ry <;> first | (cases rx <;> exact hp.elim) | skip
  rename_i i
  cases rx <;> first | exact hp.elim | skip
  · rename_i s
    dsimp only [fIdx] at hp
    split at hp
    · rename_i hl
      cases hc : atI s.cps.toList i with
      | none => rw [hc] at hp; exact hp.elim
      | some c =>
        rw [hc] at hp
        exact .inr (.inr ⟨s, i, c, rfl, rfl, Evl.sz_of hl, hc, post_z hF hp (.str _)⟩)
    · exact hp.elim
  · rename_i p vs ds h r
    dsimp only [fIdx] at hp
    cases hc : atI ds i with
    | none => rw [hc] at hp; exact hp.elim
    | some d =>
      rw [hc] at hp
      obtain ⟨v, h1, h2⟩ := r.at hc
      exact .inl ⟨p, vs, i, v, rfl, rfl, sq_of hF h, h1, post_z hF hp h2⟩
  · rename_i p vs ds h r
    dsimp only [fIdx] at hp
    cases hc : atI ds i with
    | none => rw [hc] at hp; exact hp.elim
    | some d =>
      rw [hc] at hp
      obtain ⟨v, h1, h2⟩ := r.at hc
      exact .inr (.inl ⟨p, vs, i, v, rfl, rfl, Evl.ex_t hF h, h1, post_z hF hp h2⟩)
  · rename_i p ns h
    dsimp only [fIdx] at hp
    cases hc : atI ns i with
    | none => rw [hc] at hp; exact hp.elim
    | some n =>
      rw [hc] at hp
      exact .inl ⟨p, _, i, .int n, rfl, rfl, Evl.ex_l hF h, by rw [atI_map, hc]; rfl, post_z hF hp (.int n)⟩
theorem e_idx (ha : SE X W ra a ma) (hb : SE X W rb b mb) (hs : PlainIx b := by exact (fun _ _ => rfl)) : SE X W .z (.Subscript a b pos) (m2 fIdx ma mb) :=
  PE.weak (pe_ix ix_seq ha.toZ hb.toZ hs) (t_op opD_idx)
/-! slices -/
def cutG {α : Type} (xs : List α) (lo hi : Option Int) : List α := (xs.drop (HT.sIx xs.length 0 lo)).take (HT.sIx xs.length xs.length hi - HT.sIx xs.length 0 lo)
theorem RepL.drop {K : PySem.W.Frag} {F : Hp} : ∀ (n : Nat) {vs : List V} {ds : List D}, RepL K F vs ds → RepL K F (vs.drop n) (ds.drop n)
  | 0, _, _, r => r
  | _ + 1, _, _, .nil => .nil
  | n + 1, _, _, .cons _ t => RepL.drop n t
theorem RepL.take {K : PySem.W.Frag} {F : Hp} : ∀ (n : Nat) {vs : List V} {ds : List D}, RepL K F vs ds → RepL K F (vs.take n) (ds.take n)
  | 0, _, _, _ => .nil
  | _ + 1, _, _, .nil => .nil
  | n + 1, _, _, .cons h t => .cons h (RepL.take n t)
theorem RepL.cut {K : PySem.W.Frag} {F : Hp} {vs : List V} {ds : List D} (r : RepL K F vs ds) (lo hi : Option Int) : RepL K F (cutV vs lo hi) (cutG ds lo hi) := by
  unfold cutV cutG
  rw [r.len]
  exact (r.drop _).take _
theorem cutG_map {α β : Type} (f : α → β) (xs : List α) (lo hi : Option Int) : cutG (xs.map f) lo hi = (cutG xs lo hi).map f := by
  unfold cutG
  rw [List.length_map, List.map_take, List.map_drop]
theorem repL_ints {K : PySem.W.Frag} {F : Hp} : ∀ (ns : List Int), RepL K F (ns.map V.int) (ns.map D.int)
  | [] => .nil
  | n :: r => .cons (.int n) (repL_ints r)
/-- a bound: an int, or none -/
def tO (X : Cx) (W : WX) (me : ME) : TO := fun σ H Q => ∃ F ev, Ex F H ∧ EnvZ X.K F σ ev ∧ (match me ev with
  | .val (.int i) => ∀ H', Ex H H' → Q (some i) H'
  | .val .non => ∀ H', Ex H H' → Q none H'
  | .err x => Wish X W σ H x
  | _ => False)
def SO (X : Cx) (W : WX) (e : Option Expr) (me : ME) : Prop := PO X e (tO X W me)
theorem PO.weak {e : Option Expr} {t t' : TO} (h : PO X e t) (q : ∀ σ H Q, t' σ H Q → t σ H Q) : PO X e t' := ⟨fun pins s σ H Q I hw => h.run pins s σ H Q I (q σ H Q hw)⟩
theorem so_none : SO X W none (mC .non) := PO.weak po_none fun σ H Q ⟨F, ev, hF, hz, hp⟩ => hp H (Ex.refl _)
def mInt (me : ME) : ME := m1 (fun d => match d with
  | .int i => .val (.int i)
  | _ => .stuck) me
theorem so_some (ha : SE X W ra a ma) : SO X W (some a) (mInt ma) := PO.weak (po_some ha.toZ) fun σ H Q ⟨F, ev, hF, hz, hp⟩ => by
  refine ⟨F, ev, hF, hz, ?_⟩
  unfold mInt m1 bindE at hp
  cases hm : ma ev with
  | stuck => rw [hm] at hp; exact hp
  | err x => rw [hm] at hp; exact hp
  | val d =>
    rw [hm] at hp
    cases d with
    | int i =>
      intro v H' F' as e g f rf o
      cases rf with
      | z hr =>
        cases hr
        exact ⟨i, rfl, hp H' e⟩
    | _ => exact hp.elim
def oI : D → Option (Option Int)
  | .int i => some (some i)
  | .non => some none
  | _ => none
def mSl (f : D → Option Int → Option Int → OE) (me mlo mhi : ME) : ME := fun ev => bindE (me ev) fun x => bindE (mlo ev) fun l => (match oI l with
  | some l => bindE (mhi ev) fun h => (match oI h with
    | some h => f x l h
    | none => .stuck)
  | none => .stuck)
def SlD (X : Cx) (W : WX) (r : Fr) (R : V → Option Int → Option Int → Hp → VK → Prop) (f : D → Option Int → Option Int → OE) : Prop := ∀ F H x dx l h σ Q, Ex F H → Rep X.K F x dx → Post X W σ Q F H r (f dx l h) → R x l h H Q
theorem e_slR {R : V → Option Int → Option Int → Hp → VK → Prop} {r : Fr} {f : D → Option Int → Option Int → OE} {lo hi : Option Expr} {p2 : Pos} {ml mh : ME} (hr : SlR X R) (hR : SlD X W r R f) (ha : SE X W ra a ma) (hl : SO X W lo ml) (hh : SO X W hi mh) : SE X W r (.Subscript a (.Slice lo hi none p2) pos) (mSl f ma ml mh) :=
  PE.weak (pe_slice hr ha.toZ hl hh) fun σ H Q ⟨F, ev, hF, hz, hp⟩ => seqE hF hz hp fun dx v H1 F1 _ e1 g1 f1 r1 z1 p1 => by
    refine ⟨F1, ev, f1, z1, ?_⟩
    have rest : ∀ l H2, Ex H1 H2 → Post X W σ Q F1 H2 r (bindE (mh ev) fun h => (match oI h with
        | some h => f dx l h
        | none => .stuck)) → tO X W mh σ H2 fun u H3 => R v l u H3 Q := fun l H2 e2 p2 => by
      refine ⟨F1, ev, f1.trans e2, z1, ?_⟩
      cases hm : mh ev with
      | stuck => rw [hm] at p2; exact p2
      | err x => rw [hm] at p2; exact p2
      | val d =>
        rw [hm] at p2
        cases d with
        | int i => exact fun H3 e3 => hR F1 H3 v dx l (some i) σ Q ((f1.trans e2).trans e3) r1 (Post.up p2 (Gr.refl _ _) e3)
        | non => exact fun H3 e3 => hR F1 H3 v dx l none σ Q ((f1.trans e2).trans e3) r1 (Post.up p2 (Gr.refl _ _) e3)
        | _ => exact p2.elim
    cases hm : ml ev with
    | stuck => rw [hm] at p1; exact p1
    | err x => rw [hm] at p1; exact p1
    | val d =>
      rw [hm] at p1
      cases d with
      | int i => exact fun H2 e2 => rest (some i) H2 e2 (Post.up p1 (Gr.refl _ _) e2)
      | non => exact fun H2 e2 => rest none H2 e2 (Post.up p1 (Gr.refl _ _) e2)
      | _ => exact p1.elim
end
section
variable {X : Cx} {W : WX} {a b c : Expr} {pos : Pos} {ra rb rc : Fr} {ma mb mc : ME}
/-- xs[lo:hi], t[lo:hi], s[lo:hi] -/
def fSl : D → Option Int → Option Int → OE := fun x lo hi => match x with
  | .lst ds => .val (.lst (cutG ds lo hi))
  | .scr ns => .val (.lst ((cutG ns lo hi).map D.int))
  | _ => .stuck
def fSlT : D → Option Int → Option Int → OE := fun x lo hi => match x with
  | .tup ds => .val (.tup (cutG ds lo hi))
  | _ => .stuck
def fSlS : D → Option Int → Option Int → OE := fun x lo hi => match x with
  | .str s => if s.length ≤ 100000 then .val (.str (cutS s lo hi)) else .stuck
  | _ => .stuck
theorem rfs_z {K : PySem.W.Frag} {F H : Hp} : ∀ {vs : List V} {ds : List D}, RepL K F vs ds → RFs K F H (List.replicate vs.length .z) vs ds []
  | _, _, .nil => .nil
  | v :: vs, _, .cons h t => .cons (bs := []) (.z h) (rfs_z t)
/-- a new list of shared things -/
theorem post_newL {σ : L2.St} {Q : VK} {F H : Hp} {vs : List V} {ds : List D} {p : Addr} (hF : Ex F H) (h : Post X W σ Q F H (.l .z) (.val (.lst ds))) (r : RepL X.K F vs ds) (hp : H p = none) : Q (.ref p) (upd H p (.lst vs)) :=
  h (.ref p) _ F [p] (Evl.Ex.new hp) (Gr.refl _ _) (hF.trans (Evl.Ex.new hp)) (.l upd_same (rfs_z r)) ⟨fun a => by rw [List.count_singleton]; split <;> omega, fun a ha => by
    have e : a = p := by simpa using ha
    rw [e]
    exact ⟨hp, ex_none hF hp⟩⟩
theorem post_newT {σ : L2.St} {Q : VK} {F H : Hp} {vs : List V} {ds : List D} {p : Addr} (hF : Ex F H) (h : Post X W σ Q F H .z (.val (.tup ds))) (r : RepL X.K F vs ds) (hp : H p = none) : Q (.ref p) (upd H p (.tup vs)) :=
  h (.ref p) _ (upd F p (.tup vs)) [] (Evl.Ex.new hp) (gr_upd hp (ex_none hF hp)) (ex_updL hF) (.z (.tup (.inl (.inl upd_same)) (r.mono (Evl.Ex.new (ex_none hF hp))))) .nil
theorem slD_L : SlD X W (.l .z) (rSlL X.K) fSl := fun F H x dx lo hi σ Q hF rx hp => by
  cases rx <;> first | exact hp.elim | skip
  · rename_i p vs ds h r
    exact ⟨p, vs, rfl, sq_of hF h, fun q hq => post_newL hF hp (r.cut lo hi) hq⟩
  · rename_i p ns h
    refine ⟨p, _, rfl, Evl.ex_l hF h, fun q hq => post_newL hF hp ?_ hq⟩
    have e : cutV (ns.map V.int) lo hi = (cutG ns lo hi).map V.int := cutG_map V.int ns lo hi
    rw [e]
    exact repL_ints _
theorem slD_T : SlD X W .z (rSlA X.K) fSlT := fun F H x dx lo hi σ Q hF rx hp => by
  cases rx <;> first | exact hp.elim | skip
  rename_i p vs ds h r
  refine ⟨p, vs, rfl, Evl.ex_t hF h, fun hw => ?_, fun _ q hq => post_newT hF hp (r.cut lo hi) hq⟩
  have e : cutG ds lo hi = ds := by
    unfold cutG
    rw [← r.len, hw.1, hw.2, List.drop_zero, Nat.sub_zero, r.len, List.take_length]
  dsimp only [fSlT] at hp
  rw [e] at hp
  exact post_z hF hp (.tup h r)
theorem slD_S : SlD X W .n rSlS fSlS := fun F H x dx lo hi σ Q hF rx hp => by
  cases rx <;> first | exact hp.elim | skip
  dsimp only [fSlS] at hp
  split at hp
  · rename_i hl
    exact ⟨_, rfl, Evl.sz_of hl, post_str hF hp⟩
  · exact hp.elim
theorem e_slL {lo hi : Option Expr} {p2 : Pos} {ml mh : ME} (ha : SE X W ra a ma) (hl : SO X W lo ml) (hh : SO X W hi mh) : SE X W (.l .z) (.Subscript a (.Slice lo hi none p2) pos) (mSl fSl ma ml mh) := e_slR sl_list slD_L ha hl hh
theorem e_slT {lo hi : Option Expr} {p2 : Pos} {ml mh : ME} (ha : SE X W ra a ma) (hl : SO X W lo ml) (hh : SO X W hi mh) : SE X W .z (.Subscript a (.Slice lo hi none p2) pos) (mSl fSlT ma ml mh) := e_slR sl_tupA slD_T ha hl hh
theorem e_slS {lo hi : Option Expr} {p2 : Pos} {ml mh : ME} (ha : SE X W ra a ma) (hl : SO X W lo ml) (hh : SO X W hi mh) : SE X W .n (.Subscript a (.Slice lo hi none p2) pos) (mSl fSlS ma ml mh) := e_slR sl_str slD_S ha hl hh
/-! ### len, isinstance, .. -/
def fLen : List D → OE
  | [.lst ds] => .val (.int ds.length)
  | [.tup ds] => .val (.int ds.length)
  | [.scr ns] => .val (.int ns.length)
  | [.str s] => if s.length ≤ 100000 then .val (.int s.length) else .stuck
  | _ => .stuck
theorem callD_len : CallD X W .n (fun xs H Q => ∃ x n, xs = [x] ∧ LenV X.K x H n ∧ Q (.int n) H) fLen := fun F H vs ds σ Q hF r hp => by
  cases r with
  | nil => exact hp.elim
  | cons h t =>
    cases t with
    | nil =>
      cases h <;> first | exact hp.elim | skip
      · rename_i s
        dsimp only [fLen] at hp
        split at hp
        · rename_i hl
          exact ⟨_, s.length, rfl, ⟨Evl.sz_of hl, rfl⟩, post_int hF hp⟩
        · exact hp.elim
      · rename_i p vs ds h r
        have q := post_int hF hp
        rw [← r.len] at q
        exact ⟨_, vs.length, rfl, .inl ⟨vs, sq_of hF h, rfl⟩, q⟩
      · rename_i p vs ds h r
        have q := post_int hF hp
        rw [← r.len] at q
        exact ⟨_, vs.length, rfl, .inr ⟨vs, Evl.ex_t hF h, rfl⟩, q⟩
      · rename_i p ns h
        have q := post_int hF hp
        exact ⟨_, ns.length, rfl, .inl ⟨_, Evl.ex_l hF h, by simp⟩, q⟩
    | cons h2 t2 => cases h <;> exact hp.elim
theorem e_len {p : Pos} {rs : List Fr} {ma : MA} (hg : Gl X "len") (hm : X.mg "len" = none) (ha : SA X W rs [a] ma) (he : starEach [a] X.env = (false, eval a X.env) :: starEach [] X.env := by rfl) : SE X W .n (.Call (.Name "len" p) [a] [] pos) (mCall fLen ma) :=
  e_callB call_len callD_len hg hm PySem.boot_len ha (he := he)
/-- a value's kind, as the model names it -/
def tyN : D → String
  | .non => "NoneType"
  | .bl _ => "bool"
  | .int _ => "int"
  | .str _ => "str"
  | .lst _ | .scr _ => "list"
  | .tup _ => "tuple"
  | .dct _ => "dict"
  | .adr _ => "object"
  | .obj _ _ => "object"
  | .dcT _ => "object"
def isAdr : D → Bool
  | .adr _ => true
  | .obj _ _ => true
  | .dcT _ => true
  | _ => false
theorem tyX_of {K : PySem.W.Frag} {F H : Hp} {v : V} {d : D} (hF : Ex F H) (r : Rep K F v d) (na : isAdr d = false) : TyX K H v (.type (tyN d)) := by
  cases r with
  | non => exact .base .non
  | bl b => exact .base (.bl b)
  | int i => exact .base (.int i)
  | str s => exact .base (.str s)
  | adr a => cases na
  | obj _ _ _ _ => cases na
  | dcT _ _ _ => cases na
  | lst h _ => exact .base (.lst (hF _ _ h))
  | dct h _ => exact .base (.dK (hF _ _ h))
  | tup h _ =>
    rcases h with (h | ⟨o, h⟩) | ⟨o, its, n, h1, h2, _⟩
    · exact .base (.tup (hF _ _ h))
    · exact .fTuple (hF _ _ h)
    · exact .kTuple h1 h2
  | scr h =>
    rcases h with (h | ⟨o, h⟩) | ⟨o, its, n, h1, h2, _⟩
    · exact .base (.lst (hF _ _ h))
    · exact .base (.frz (hF _ _ h))
    · exact .kList h1 h2
/-- isinstance(x, T), T one of the built-in kinds -/
inductive Kd where
  | int | bool | str | list | tuple
def Kd.nm : Kd → String
  | .int => "int"
  | .bool => "bool"
  | .str => "str"
  | .list => "list"
  | .tuple => "tuple"
def isKd : Kd → D → Bool
  | .int, .int _ => true
  | .int, .bl _ => true
  | .bool, .bl _ => true
  | .str, .str _ => true
  | .list, .lst _ => true
  | .list, .scr _ => true
  | .tuple, .tup _ => true
  | _, _ => false
def fIsi (k : Kd) : D → OE := fun d => if isAdr d = true then .stuck else .val (.bl (isKd k d))
def kdN : List String := ["NoneType", "bool", "int", "str", "list", "tuple", "dict"]
theorem kit_all : (kdN.all fun a => [Kd.int, .bool, .str, .list, .tuple].all fun k => kitB a k.nm == some (a == k.nm || (a == "bool" && k.nm == "int"))) = true := by decide +kernel
theorem kit_kd {K : PySem.W.Frag} (k : Kd) (d : D) (na : isAdr d = false) : PySem.W.kitOne K (.type (tyN d)) (.type k.nm) = some (isKd k d) := by
  refine kit_ty ?_
  have h := kit_all
  rw [List.all_eq_true] at h
  have h1 := h (tyN d) (by cases d <;> first | (simp [tyN, kdN]; done) | (simp [isAdr] at na))
  rw [List.all_eq_true] at h1
  have h2 := h1 k (by cases k <;> simp)
  have h3 := eq_of_beq h2
  rw [h3]
  cases k <;> cases d <;> first | (simp [tyN, Kd.nm, isKd]; done) | (simp [isAdr] at na)
theorem e_isi {k : Kd} {x : Str} {p p2 : Pos} (hx : x = Str.ofString k.nm) (hg : Gl X "isinstance") (hm : X.mg "isinstance" = none) (hg2 : Gl X x) (hm2 : X.mg x = none) (hv : bootBuiltins x = some (.type k.nm)) (ha : SE X W ra a ma) (hn : x ≠ "__name__" := by decide) (hdb : (x == ("__debug__" : Str)) = false := by decide)
    (he : starEach (a :: [.Name x p2]) X.env = (false, eval a X.env) :: starEach [.Name x p2] X.env := by rfl) (he2 : starEach [.Name x p2] X.env = (false, eval (.Name x p2) X.env) :: starEach [] X.env := by rfl) (hpl : (backTo pos (starEach [.Name x p2] X.env)).any (·.1) = false := by rfl) :
    SE X W .n (.Call (.Name "isinstance" p) [a, .Name x p2] [] pos) (m1 (fIsi k) ma) :=
  PE.weak (pe_callB call_isi hg hm (by decide +kernel) (pa_cons ha.toZ (pa_cons (pe_bltn (v := .ty k.nm) hg2 hm2 hv rfl hn hdb) pa_nil he2) he) (he := he) (hpl := hpl)) fun σ H Q ⟨F, ev, hF, hz, hp⟩ =>
    seqE hF hz hp fun dx v H1 F1 _ e1 g1 f1 r1 z1 p1 => by
      unfold fIsi at p1
      cases na : isAdr dx with
      | true => rw [if_pos na] at p1; exact p1.elim
      | false =>
        rw [if_neg (by rw [na]; decide)] at p1
        exact ⟨v, .ty k.nm, .type (tyN dx), .type k.nm, isKd k dx, rfl, .ty _, tyX_of f1 r1 na, kit_kd k dx na, post_bl f1 p1⟩
end

/-! ### if, while, for -/
section
variable {X : Cx} {W : WX} {B F0 : Hp} {R : Fr}
theorem Sta.up {K : PySem.W.Frag} {H H' : Hp} {σ : L2.St} {env : Env} (S : Sta K B F0 H σ env) (e : Ex H H') : Sta K B F0 H' σ env := by
  obtain ⟨F, as, R, S⟩ := S
  exact ⟨F, as, R.mono (Ex.refl _) fun a _ o h => e a o h, S.own, S.bh.trans e, S.gr, S.fh.trans e⟩
theorem Sta.test {me : ME} {σ : L2.St} {H : Hp} {env : Env} {Q : Bool → Hp → Prop} (S : Sta X.K B F0 H σ env) (k : match me (dOf env) with
    | .val (.bl b) => ∀ H', Sta X.K B F0 H' σ env → Q b H'
    | .err x => ∀ H', Sta X.K B F0 H' σ env → ∀ C, X.mg x = some (.ref C) → W (.ref C) none σ H'
    | _ => False) : tT X W me σ H Q := by
  obtain ⟨F, as, R0, S0⟩ := id S
  refine ⟨plus F H as, dOf env, plus_sub S0.fh, R0.dz fun a ha => (S0.own.fr a ha).2, ?_⟩
  cases hm : me (dOf env) with
  | stuck => rw [hm] at k; exact k
  | err x => rw [hm] at k; exact fun H' e C hC => k H' (S.up e) C hC
  | val d =>
    rw [hm] at k
    cases d with
    | bl b => exact fun H' e => k H' (S.up e)
    | _ => exact k.elim
def mIf (mc : ME) (ma mb : MS) : MS := fun env => match mc (dOf env) with
  | .val (.bl true) => ma env
  | .val (.bl false) => mb env
  | .err x => .err x env
  | _ => .stuck
theorem s_if {c : Expr} {a b : List Stmt} {pos : Pos} {mc : ME} {ma mb : MS} (hc : ST X W c mc) (ha : SSs X W B R a ma) (hb : SSs X W B R b mb) : SS X W B R (.If c a b pos) (mIf mc ma mb) :=
  PS.weak (ps_if hc ha hb) fun D σ H ⟨F0, env, S, h⟩ => by
    refine S.test ?_
    unfold mIf at h
    cases hm : mc (dOf env) with
    | stuck => rw [hm] at h; exact h
    | err x => rw [hm] at h; exact fun H' S' C hC => h σ H' S' C hC
    | val d =>
      rw [hm] at h
      cases d with
      | bl b =>
        cases b with
        | true => exact fun H' S' => ⟨F0, env, S', h⟩
        | false => exact fun H' S' => ⟨F0, env, S', h⟩
      | _ => exact h.elim
/-- behind a turn -/
def turn (o : OS) (k : Env → OS) : OS := match o with
  | .next e => k e
  | .cont e => k e
  | .brk e => .next e
  | .ret d => .ret d
  | .err x e => .err x e
  | .stuck => .stuck
theorem EndS.turn {D : Ends} {o : OS} {k : Env → OS} {N : L2.St → Hp → Prop} (h : EndS X W B F0 R D (U.turn o k)) (hN : ∀ e, EndS X W B F0 R D (k e) → ∀ σ H, Sta X.K B F0 H σ e → N σ H) : EndS X W B F0 R { D with nx := N, ct := N, bk := D.nx } o := by
  cases o with
  | stuck => exact h
  | next e => exact fun σ H S => hN e h σ H S
  | ret d => exact h
  | brk e => exact h
  | cont e => exact fun σ H S => hN e h σ H S
  | err x e => exact h
def mWhile (mc : ME) (mb : MS) : Nat → MS
  | 0, _ => .stuck
  | n + 1, env => match mc (dOf env) with
    | .val (.bl true) => turn (mb env) (mWhile mc mb n)
    | .val (.bl false) => .next env
    | .err x => .err x env
    | _ => .stuck
theorem s_while (n : Nat) {c : Expr} {body : List Stmt} {pos : Pos} {mc : ME} {mb : MS} (hp : PassesOwn (model X.prog X.w) X.A X.env X.xe) (hc : ST X W c mc) (hb : SSs X W B R body mb) : SS X W B R (.While c body [] pos) (mWhile mc mb n) :=
  PS.weak (ps_while hp hc hb) fun D σ H ⟨F0, env, S, h⟩ => by
    refine ⟨fun m σ H => ∃ env, Sta X.K B F0 H σ env ∧ EndS X W B F0 R D (mWhile mc mb m env), ⟨n, env, S, h⟩, ?_⟩
    rintro m σ H ⟨env, S, h⟩
    cases m with
    | zero => exact h.elim
    | succ m =>
      refine S.test ?_
      unfold mWhile at h
      cases hm : mc (dOf env) with
      | stuck => rw [hm] at h; exact h
      | err x => rw [hm] at h; exact fun H' S' C hC => h σ H' S' C hC
      | val d =>
        rw [hm] at h
        cases d with
        | bl b =>
          cases b with
          | true =>
            intro H' S'
            rw [if_pos rfl]
            exact ⟨fun σ' H' => ∃ env, Sta X.K B F0 H' σ' env ∧ EndS X W B F0 R D (mWhile mc mb m env), fun σ' H' q => ⟨m, Nat.lt_succ_self m, q⟩, F0, env, S', EndS.turn h fun e he σ H S => ⟨e, S, he⟩⟩
          | false =>
            intro H' S'
            rw [if_neg Bool.false_ne_true]
            exact h σ H' S'
        | _ => exact h.elim
/-! ### what is walked -/
inductive OI where
  | stuck | items (ds : List D) | err (c : Str)
abbrev MI := Ev → OI
/-- the iterator yields ds, while F1 stands -/
def IterOk (K : PySem.W.Frag) (F1 : Hp) (J : It) (ds : List D) : Prop := ∀ i F H, Ex F1 F → Ex F H →
  (ds.length ≤ i → J.stop i H) ∧ ∀ d, ds[i]? = some d → J.go i H ∧ ∀ x H', J.yld i H x H' → Ex H H' ∧ ∃ F', Gr H F F' ∧ Ex F' H' ∧ Rep K F' x d
def PostI (K : PySem.W.Frag) (R : It → Hp → Prop) (F H : Hp) (q : Bool) (ds : List D) : Prop := ∀ J H1 F1, Ex H H1 → Gr H F F1 → Ex F1 H1 →
  (∀ as, (as = [] ∨ (q = true ∧ ∀ a ∈ as, ∃ o, F a = some o ∧ Cell o)) → IterOk K (less F1 as) J ds) → R J H1
def PostIO (X : Cx) (W : WX) (σ : L2.St) (R : It → Hp → Prop) (F H : Hp) (q : Bool) : OI → Prop
  | .items ds => PostI X.K R F H q ds
  | .err x => Wish X W σ H x
  | .stuck => False
def tI (X : Cx) (W : WX) (q : Bool) (mi : MI) : TI := fun σ H R => ∃ F ev, Ex F H ∧ EnvZ X.K F σ ev ∧ PostIO X W σ R F H q (mi ev)
def SI (X : Cx) (W : WX) (q : Bool) (tg iter : Expr) (mi : MI) : Prop := PI X tg iter (tI X W q mi)
theorem PI.weak {tg e : Expr} {t t' : TI} (h : PI X tg e t) (q : ∀ σ H R, t' σ H R → t σ H R) : PI X tg e t' := ⟨fun pins s σ H R I hw => h.run pins s σ H R I (q σ H R hw)⟩
theorem less_nil {F : Hp} : less F [] = F := by
  funext a
  unfold less
  rw [if_neg (by simp)]
/-! ranges -/
def rng (lo : Int) (n : Nat) : List D := (List.range n).map fun (i : Nat) => D.int (lo + (i : Int))
theorem iter_rng {K : PySem.W.Frag} {F1 : Hp} {lo : Int} {n : Nat} : IterOk K F1 (Itr lo n) (rng lo n) := fun i F H _ hF => by
  have hlen : (rng lo n).length = n := by simp [rng]
  refine ⟨fun h => ?_, fun d hd => ?_⟩
  · rw [hlen] at h; exact h
  · have hi : i < n := by
      have := (List.getElem?_eq_some_iff.mp hd).1
      rw [hlen] at this
      exact this
    have e : d = .int (lo + (i : Int)) := by
      have : (rng lo n)[i]? = some (.int (lo + (i : Int))) := by simp [rng, hi]
      rw [this] at hd
      exact (Option.some.inj hd).symm
    subst e
    refine ⟨hi, fun x H' y => ?_⟩
    obtain ⟨rfl, rfl⟩ := y
    exact ⟨Ex.refl _, F, Gr.refl _ _, hF, .int _⟩
def fRng : List D → OI
  | [.int j] => if -(2 ^ 62) ≤ j ∧ j < 2 ^ 62 then .items (rng 0 j.toNat) else .stuck
  | [.int i, .int j] => if -(2 ^ 62) ≤ i ∧ i < 2 ^ 62 ∧ -(2 ^ 62) ≤ j ∧ j < 2 ^ 62 then .items (rng i (j - i).toNat) else .stuck
  | _ => .stuck
def mIter (f : List D → OI) (ma : MA) : MI := fun ev => match ma ev with
  | .vals ds => f ds
  | .stuck => .stuck
  | .err x => .err x
theorem seqI {rs : List Fr} {ma : MA} {f : List D → OI} {q : Bool} {σ : L2.St} {F H : Hp} {ev : Ev} {Q : It → Hp → Prop} {R : List V → Hp → Prop} (hF : Ex F H) (hz : EnvZ X.K F σ ev) (hp : PostIO X W σ Q F H q (mIter f ma ev))
    (k : ∀ ds vs H' F' as, ma ev = .vals ds → Ex H H' → Gr H F F' → Ex F' H' → RFs X.K F' H' rs vs ds as → Own H F' as → PostIO X W σ Q F H q (f ds) → R vs H') : tA X W rs ma σ H R := by
  refine ⟨F, ev, hF, hz, ?_⟩
  unfold mIter at hp
  cases hm : ma ev with
  | stuck => rw [hm] at hp; exact hp
  | err x => rw [hm] at hp; exact hp
  | vals ds =>
    rw [hm] at hp
    exact fun vs H' F' as e g f' hr o => k ds vs H' F' as hm e g f' hr o hp
theorem rf_int {K : PySem.W.Frag} {F H : Hp} {r : Fr} {v : V} {i : Int} {as : List Addr} (h : RF K F H r v (.int i) as) : v = .int i := by
  cases h with
  | z h => cases h; rfl
  | n h _ => cases h; rfl
section
variable {tg a b c : Expr} {p pos : Pos} {r1 r2 r3 : Fr} {ma : MA}
theorem si_range1 (hg : Gl X "range") (hm : X.mg "range" = none) (ha : SA X W [r1] [a] ma) (hs : starEach [a] X.env = [(false, eval a X.env)] := by rfl) : SI X W true tg (.Call (.Name "range" p) [a] [] pos) (mIter fRng ma) :=
  PI.weak (pi_range1 hg hm ha hs) fun σ H R ⟨F, ev, hF, hz, hp⟩ => seqI hF hz hp fun ds vs H' F' as hm e g f hr o q => by
    cases hr with
    | cons h t =>
      cases t with
      | nil =>
        rename_i d _
        cases d <;> first | exact q.elim | skip
        rename_i j
        rw [rf_int h]
        by_cases hc : -(2 ^ 62) ≤ j ∧ j < 2 ^ 62
        · simp only [fRng, if_pos hc] at q
          exact ⟨j, rfl, hc.1, hc.2, q _ _ _ e g f fun as _ => iter_rng⟩
        · simp only [fRng, if_neg hc] at q
          exact q.elim
theorem si_range2 (hg : Gl X "range") (hm : X.mg "range" = none) (ha : SA X W [r1, r2] [a, b] ma) (hs : starEach [a, b] X.env = [(false, eval a X.env), (false, eval b X.env)] := by rfl) (hs2 : starEach [b] X.env = [(false, eval b X.env)] := by rfl) : SI X W true tg (.Call (.Name "range" p) [a, b] [] pos) (mIter fRng ma) :=
  PI.weak (pi_range2 hg hm ha hs hs2) fun σ H R ⟨F, ev, hF, hz, hp⟩ => seqI hF hz hp fun ds vs H' F' as hm e g f hr o q => by
    cases hr with
    | cons h t =>
      cases t with
      | cons h2 t2 =>
        cases t2 with
        | nil =>
          rename_i d1 _ _ d2 _
          cases d1 <;> first | exact q.elim | skip
          cases d2 <;> first | exact q.elim | skip
          rename_i i j
          rw [rf_int h, rf_int h2]
          by_cases hc : -(2 ^ 62) ≤ i ∧ i < 2 ^ 62 ∧ -(2 ^ 62) ≤ j ∧ j < 2 ^ 62
          · simp only [fRng, if_pos hc] at q
            exact ⟨i, j, rfl, hc, q _ _ _ e g f fun as _ => iter_rng⟩
          · simp only [fRng, if_neg hc] at q
            exact q.elim
/-! lists, tuples -/
def fItL : D → OI
  | .lst ds => .items ds
  | .scr ns => .items (ns.map D.int)
  | _ => .stuck
def fItT : D → OI
  | .tup ds => .items ds
  | _ => .stuck
def mIt1 (f : D → OI) (me : ME) : MI := fun ev => match me ev with
  | .val d => f d
  | .stuck => .stuck
  | .err x => .err x
theorem iter_lst {K : PySem.W.Frag} {F1 : Hp} {a : Addr} {vs : List V} {ds : List D} (h : SqL K F1 a vs) (r : RepL K F1 vs ds) : IterOk K F1 (Itl K a) ds := fun i F H e hF => by
  have hH : SqL K H a vs := Evl.ex_l (e.trans hF) h
  refine ⟨fun hl => ⟨vs, hH, by rw [r.len]; exact hl⟩, fun d hd => ?_⟩
  obtain ⟨v, h1, h2⟩ := r.get hd
  refine ⟨⟨vs, v, hH, h1⟩, fun x H' y => ?_⟩
  obtain ⟨rfl, y⟩ := y
  have hx := y vs hH
  rw [h1] at hx
  cases hx
  exact ⟨Ex.refl _, F, Gr.refl _ _, hF, h2.mono e⟩
theorem iter_tup {K : PySem.W.Frag} {F1 : Hp} {a : Addr} {vs : List V} {ds : List D} (h : SqT K F1 a vs) (r : RepL K F1 vs ds) : IterOk K F1 (Itt K a) ds := fun i F H e hF => by
  have hH : SqT K H a vs := Evl.ex_t (e.trans hF) h
  refine ⟨fun hl => ⟨vs, hH, by rw [r.len]; exact hl⟩, fun d hd => ?_⟩
  obtain ⟨v, h1, h2⟩ := r.get hd
  refine ⟨⟨vs, v, hH, h1⟩, fun x H' y => ?_⟩
  obtain ⟨rfl, y⟩ := y
  have hx := y vs hH
  rw [h1] at hx
  cases hx
  exact ⟨Ex.refl _, F, Gr.refl _ _, hF, h2.mono e⟩
theorem less_of {F' : Hp} {as : List Addr} {a : Addr} {o : HO} (h : F' a = some o) (hn : a ∉ as) : less F' as a = some o := by
  unfold less
  rw [if_neg hn]
  exact h
theorem Rep.itL {K : PySem.W.Frag} {F : Hp} {v : V} {d : D} {ds : List D} (h : Rep K F v d) (q : fItL d = .items ds) : ∃ a vs, v = .ref a ∧ SqL K F a vs ∧ RepL K F vs ds := by
  cases h with
  | lst h r => cases q; exact ⟨_, _, rfl, SqL.of h, r⟩
  | scr h => cases q; exact ⟨_, _, rfl, h, repL_ints _⟩
  | _ => cases q
theorem Rep.itT {K : PySem.W.Frag} {F : Hp} {v : V} {d : D} {ds : List D} (h : Rep K F v d) (q : fItT d = .items ds) : ∃ a vs, v = .ref a ∧ SqT K F a vs ∧ RepL K F vs ds := by
  cases h with
  | tup h r => cases q; exact ⟨_, _, rfl, h, r⟩
  | _ => cases q
theorem si_list {r : Fr} {me : ME} (ha : SE X W r a me) : SI X W r.zf tg a (mIt1 fItL me) := PI.weak (pi_list ha) fun σ H R ⟨F, ev, hF, hz, hp⟩ => by
  refine ⟨F, ev, hF, hz, ?_⟩
  unfold mIt1 at hp
  cases hm : me ev with
  | stuck => rw [hm] at hp; exact hp
  | err x => rw [hm] at hp; exact hp
  | val d =>
    rw [hm] at hp
    intro v H1 F1 bs e g f rf o
    have hd : ∃ ds, fItL d = .items ds := by
      cases d <;> first | exact ⟨_, rfl⟩ | exact hp.elim
    obtain ⟨ds, hds⟩ := hd
    have hp : PostIO X W σ R F H r.zf (fItL d) := hp
    rw [hds] at hp
    have fz : Rep X.K (plus F1 H1 bs) v d := rf.frozen (plus_ex fun a ha => (o.fr a ha).2) fun a ha u hu => by unfold plus; rw [if_pos ha]; exact hu
    have G1 : Gr H F1 (plus F1 H1 bs) := plus_gr ⟨o.one, o.fr⟩
    have hsub : Ex (plus F1 H1 bs) H1 := plus_sub f
    obtain ⟨a', vs, rfl, hs, hr⟩ := fz.itL hds
    refine ⟨a', rfl, ⟨vs, Evl.ex_l hsub hs⟩, ?_⟩
    refine hp (Itl X.K a') H1 (plus F1 H1 bs) e (g.trans G1 (Ex.refl _)) hsub fun as hq => ?_
    rcases hq with rfl | ⟨hq, hc⟩
    · rw [less_nil]
      exact iter_lst hs hr
    · -- all of it is new, or without lists
      have hc1 : ∀ b ∈ as, ∃ o, F1 b = some o ∧ Cell o := fun b hb => by
        obtain ⟨o', h1, h2⟩ := hc b hb
        exact ⟨o', g.ex b o' h1, h2⟩
      have rf' := rf.less hc1 hq
      have nb : ∀ b ∈ bs, b ∉ as := fun b hb ha => by
        obtain ⟨o', h1, _⟩ := hc b ha
        have := ex_none hF (o.fr b hb).1
        rw [h1] at this
        cases this
      have fz' : Rep X.K (less (plus F1 H1 bs) as) (.ref a') d := rf'.frozen (fun b u hu => by
          unfold less at hu ⊢
          split at hu
          · cases hu
          · rename_i hn
            rw [if_neg hn]
            unfold plus
            rw [if_neg fun hb => by rw [(o.fr b hb).2] at hu; cases hu]
            exact hu) fun b hb u hu => less_of (by unfold plus; rw [if_pos hb]; exact hu) (nb b hb)
      obtain ⟨a2, vs2, e2, hs2, hr2⟩ := fz'.itL hds
      cases e2
      exact iter_lst hs2 hr2
theorem si_tup {r : Fr} {me : ME} (ha : SE X W r a me) : SI X W r.zf tg a (mIt1 fItT me) := PI.weak (pi_tup ha) fun σ H R ⟨F, ev, hF, hz, hp⟩ => by
  refine ⟨F, ev, hF, hz, ?_⟩
  unfold mIt1 at hp
  cases hm : me ev with
  | stuck => rw [hm] at hp; exact hp
  | err x => rw [hm] at hp; exact hp
  | val d =>
    rw [hm] at hp
    intro v H1 F1 bs e g f rf o
    have hd : ∃ ds, fItT d = .items ds := by
      cases d <;> first | exact ⟨_, rfl⟩ | exact hp.elim
    obtain ⟨ds, hds⟩ := hd
    have hp : PostIO X W σ R F H r.zf (fItT d) := hp
    rw [hds] at hp
    have fz : Rep X.K (plus F1 H1 bs) v d := rf.frozen (plus_ex fun a ha => (o.fr a ha).2) fun a ha u hu => by unfold plus; rw [if_pos ha]; exact hu
    have G1 : Gr H F1 (plus F1 H1 bs) := plus_gr ⟨o.one, o.fr⟩
    have hsub : Ex (plus F1 H1 bs) H1 := plus_sub f
    obtain ⟨a', vs, rfl, hs, hr⟩ := fz.itT hds
    refine ⟨a', rfl, ⟨vs, Evl.ex_t hsub hs⟩, ?_⟩
    refine hp (Itt X.K a') H1 (plus F1 H1 bs) e (g.trans G1 (Ex.refl _)) hsub fun as hq => ?_
    rcases hq with rfl | ⟨hq, hc⟩
    · rw [less_nil]
      exact iter_tup hs hr
    · have hc1 : ∀ b ∈ as, ∃ o, F1 b = some o ∧ Cell o := fun b hb => by
        obtain ⟨o', h1, h2⟩ := hc b hb
        exact ⟨o', g.ex b o' h1, h2⟩
      have rf' := rf.less hc1 hq
      have nb : ∀ b ∈ bs, b ∉ as := fun b hb ha => by
        obtain ⟨o', h1, _⟩ := hc b ha
        have := ex_none hF (o.fr b hb).1
        rw [h1] at this
        cases this
      have fz' : Rep X.K (less (plus F1 H1 bs) as) (.ref a') d := rf'.frozen (fun b u hu => by
          unfold less at hu ⊢
          split at hu
          · cases hu
          · rename_i hn
            rw [if_neg hn]
            unfold plus
            rw [if_neg fun hb => by rw [(o.fr b hb).2] at hu; cases hu]
            exact hu) fun b hb u hu => less_of (by unfold plus; rw [if_pos hb]; exact hu) (nb b hb)
      obtain ⟨a2, vs2, e2, hs2, hr2⟩ := fz'.itT hds
      cases e2
      exact iter_tup hs2 hr2
end
end

/-! ### targets -/
inductive Tg where
  | nm (i : Nat) | tp (is : List Nat)
def setV : L2.St → List Nat → List V → L2.St
  | σ, i :: is, v :: vs => setV (σ.set i (some v)) is vs
  | σ, _, _ => σ
def setE : Env → List Nat → List Fr → List D → Env
  | env, i :: is, r :: rs, d :: ds => setE (env.set i (some (r, d))) is rs ds
  | env, _, _, _ => env
def gT (K : PySem.W.Frag) : Tg → TG
  | .nm i => gName i
  | .tp is => fun v σ H Q => ∃ a vs, v = .ref a ∧ SqT K H a vs ∧ vs.length = is.length ∧ Q (setV σ is vs) H
def GT (X : Cx) (e : Expr) (t : Tg) : Prop := PG X e (gT X.K t)
def GTs (X : Cx) (es : List Expr) (is : List Nat) : Prop := es.length = is.length ∧ PGs X es (fun vs σ H Q => vs.length = is.length ∧ Q (setV σ is vs) H)
section
variable {X : Cx}
theorem gt_nm (i : Nat) {x : Str} {pos : Pos} (hN : X.N.Nodup) (hi : X.N[i]? = some x) (hx : Loc X.env.scope x) (hf : X.fn x = true ∨ X.env.scope.names.lookup x = some .local := by first | exact .inl rfl | exact .inr rfl | assumption) : GT X (.Name x pos) (.nm i) := pg_name hN hi hx hf
theorem gts_nil : GTs X [] [] := ⟨rfl, ⟨fun pins s σ H vs us Q I r h => by
  obtain ⟨h1, h2⟩ := h
  have e : vs = [] := by simpa using h1
  subst e
  exact pgs_nil.run pins s σ H [] us Q I r ⟨rfl, h2⟩⟩⟩
theorem gts_cons {e : Expr} {es : List Expr} {i : Nat} {is : List Nat} (h : GT X e (.nm i)) (hs : GTs X es is) (hs2 : (assignEach (e :: es) X.env).map (·.2) = assign e X.env :: (assignEach es X.env).map (·.2) := by rfl) : GTs X (e :: es) (i :: is) := ⟨by simp [hs.1], ⟨fun pins s σ H vs us Q I r q => by
  obtain ⟨h1, h2⟩ := q
  cases vs with
  | nil => simp at h1
  | cons v vs => exact (pgs_cons (h : PG X e (gName i)) hs.2 hs2).run pins s σ H (v :: vs) us Q I r ⟨v, vs, rfl, by simpa using h1, h2⟩⟩⟩
theorem gt_tp {es : List Expr} {k} {pos : Pos} {is : List Nat} (hc : X.calm = true) (h : GTs X es is) (hn : (assignEach es X.env).length = is.length := by rfl) (hst : (assignEach es X.env).findIdx? (·.1) = none := by rfl) : GT X (.Tuple es k pos) (.tp is) := ⟨fun pins s σ H v u Q I r q => by
  obtain ⟨a, vs, h1, h2, h3, h4⟩ := q
  exact (pg_tup hc h.2 hn hst).run pins s σ H v u Q I r ⟨a, vs, h1, h2, h3, h3, h4⟩⟩
end
theorem setE_len : ∀ (is : List Nat) (env : Env) (rs : List Fr) (ds : List D), (setE env is rs ds).length = env.length
  | [], env, _, _ => by cases env <;> rfl
  | i :: is, env, [], _ => by cases env <;> rfl
  | i :: is, env, r :: rs, [] => by cases env <;> rfl
  | i :: is, env, r :: rs, d :: ds => by
    show (setE (env.set i (some (r, d))) is rs ds).length = _
    rw [setE_len is]
    simp
theorem EnvR.setV {K : PySem.W.Frag} {F H : Hp} : ∀ {is : List Nat} {rs : List Fr} {vs : List V} {ds : List D} {σ : L2.St} {env : Env} {as bs : List Addr}, EnvR K F H σ env as → RFs K F H rs vs ds bs → (∀ i ∈ is, i < env.length) → vs.length = is.length →
    ∃ cs, EnvR K F H (U.setV σ is vs) (setE env is rs ds) cs ∧ ∀ a, cs.count a ≤ as.count a + bs.count a
  | [], _, _, _, σ, env, as, bs, h, q, _, hl => by
    refine ⟨as, ?_, fun a => by omega⟩
    have e1 : ∀ vs, U.setV σ [] vs = σ := fun vs => by cases vs <;> rfl
    have e2 : ∀ rs ds, setE env [] rs ds = env := fun rs ds => by cases rs <;> rfl
    rw [e1, e2]
    exact h
  | i :: is, _, _, _, σ, env, as, _, h, .nil, _, hl => by simp at hl
  | i :: is, r :: rs, v :: vs, d :: ds, σ, env, as, _, h, .cons (as := b1) (bs := b2) q t, hi, hl => by
    obtain ⟨cs, h1, h2⟩ := h.set q (hi i (by simp))
    obtain ⟨cs', h3, h4⟩ := EnvR.setV (is := is) h1 t (fun j hj => by rw [List.length_set]; exact hi j (by simp [hj])) (by simpa using hl)
    exact ⟨cs', h3, fun a => by
      have := h2 a
      have := h4 a
      rw [List.count_append]
      omega⟩
/-- a shared value comes to the target -/
def Tg.put : Tg → D → Env → Option Env
  | .nm i, d, env => if i < env.length then some (env.set i (some (.z, d))) else none
  | .tp is, .tup ds, env => if ds.length = is.length ∧ (∀ i ∈ is, i < env.length) then some (setE env is (List.replicate ds.length .z) ds) else none
  | .tp _, _, _ => none
theorem Tg.put_ok {K : PySem.W.Frag} {B F0 F H : Hp} {t : Tg} {σ : L2.St} {env env1 : Env} {as : List Addr} {v : V} {d : D} {Q : L2.St → Hp → Prop} (R : EnvR K F H σ env as) (S : Stt K B F0 F H as) (r : Rep K F v d) (h : t.put d env = some env1)
    (k : ∀ σ', Sta K B F0 H σ' env1 → Q σ' H) : gT K t v σ H Q := by
  cases t with
  | nm i =>
    by_cases hi : i < env.length
    · simp only [Tg.put, if_pos hi, Option.some.injEq] at h
      subst h
      obtain ⟨cs, h1, h2⟩ := R.set (.z r) hi
      exact k _ ⟨F, cs, h1, S.own.sub (fun a => by have := h2 a; simpa using this), S.bh, S.gr, S.fh⟩
    · simp only [Tg.put, if_neg hi] at h
      cases h
  | tp is =>
    cases r <;> first | (cases h; done) | skip
    rename_i a vs ds hs r
    by_cases hi : ds.length = is.length ∧ (∀ i ∈ is, i < env.length)
    · simp only [Tg.put, if_pos hi, Option.some.injEq] at h
      subst h
      have hl : vs.length = is.length := by rw [r.len]; exact hi.1
      obtain ⟨cs, h1, h2⟩ := R.setV (rfs_z r) hi.2 hl
      rw [r.len] at h1
      exact ⟨a, vs, rfl, Evl.ex_t S.fh hs, hl, k _ ⟨F, cs, h1, S.own.sub (fun a => by have := h2 a; simpa using this), S.bh, S.gr, S.fh⟩⟩
    · simp only [Tg.put, if_neg hi] at h
      cases h
theorem Sta.base {K : PySem.W.Frag} {B F0 F1 H : Hp} {σ : L2.St} {env : Env} (g : Gr B F0 F1) (S : Sta K B F1 H σ env) : Sta K B F0 H σ env := by
  obtain ⟨F, as, R, S⟩ := S
  exact ⟨F, as, R, S.own, S.bh, g.trans S.gr (Ex.refl _), S.fh⟩
theorem EndS.base {X : Cx} {W : WX} {B F0 F1 : Hp} {R : Fr} {D : Ends} {o : OS} (g : Gr B F0 F1) (h : EndS X W B F0 R D o) : EndS X W B F1 R D o := by
  cases o with
  | stuck => exact h
  | next e => exact fun σ H S => h σ H (S.base g)
  | brk e => exact fun σ H S => h σ H (S.base g)
  | cont e => exact fun σ H S => h σ H (S.base g)
  | ret d =>
    intro v H q
    obtain ⟨F, as, rf, o, e, g', f⟩ := q
    exact h v H ⟨F, as, rf, o, e, g.trans g' (Ex.refl _), f⟩
  | err x e => exact fun σ H S => h σ H (S.base g)
/-! ### for -/
def mLoop (t : Tg) (mb : MS) : List D → MS
  | [], env => .next env
  | d :: ds, env => match t.put d env with
    | some env1 => turn (mb env1) (mLoop t mb ds)
    | none => .stuck
def mFor (b : Bool) (mi : MI) (t : Tg) (mb : MS) : MS := fun env => match mi (vw b env) with
  | .items ds => mLoop t mb ds env
  | .err x => .err x env
  | .stuck => .stuck
section
variable {X : Cx} {W : WX} {B : Hp} {R : Fr}
/-- what is walked, within a body -/
theorem Sta.evalI {F0 : Hp} {b q : Bool} {mi : MI} {σ : L2.St} {H : Hp} {env : Env} {Q : It → Hp → Prop} (hb : b = true ∨ q = true) (S : Sta X.K B F0 H σ env) (hns : mi (vw b env) ≠ .stuck)
    (herr : ∀ x, mi (vw b env) = .err x → ∀ H', Sta X.K B F0 H' σ env → ∀ C, X.mg x = some (.ref C) → W (.ref C) none σ H')
    (k : ∀ ds J H' F' as, mi (vw b env) = .items ds → EnvR X.K F' H' σ env as → Stt X.K B F0 F' H' as → IterOk X.K F' J ds → Q J H') : tI X W q mi σ H Q := by
  obtain ⟨F, as, R, S⟩ := S
  have hc := R.cell
  have hn : ∀ a ∈ as, F a = none := fun a ha => (S.own.fr a ha).2
  have up : ∀ H', Ex H H' → Sta X.K B F0 H' σ env := fun H' e => ⟨F, as, R.mono (Ex.refl _) fun a _ o h => e a o h, S.own, S.bh.trans e, S.gr, S.fh.trans e⟩
  have wish : ∀ x, mi (vw b env) = .err x → Wish X W σ H x := fun x hx H' e C hC => herr x hx H' (up H' e) C hC
  cases b with
  | true =>
    refine ⟨F, hOf env, S.fh, R.hz, ?_⟩
    have e0 : vw true env = hOf env := rfl
    rw [e0] at hns herr k wish
    cases hm : mi (hOf env) with
    | stuck => exact absurd hm hns
    | err x => exact wish x hm
    | items ds =>
      intro J H' F' e g f ok
      have nb : ∀ a ∈ as, F' a = none := fun a ha => by
        cases hq : F' a with
        | none => rfl
        | some u =>
          have := g.new a (hn a ha) (by rw [hq]; simp)
          obtain ⟨o', ho', _⟩ := hc a ha
          rw [ho'] at this
          cases this
      have ok1 := ok [] (.inl rfl)
      rw [less_nil] at ok1
      exact k ds J H' F' as hm (R.mono g.ex fun a _ o h => e a o h) ⟨⟨S.own.one, fun a ha => ⟨(S.own.fr a ha).1, nb a ha⟩⟩, S.bh.trans e, S.gr.trans g S.bh, f⟩ ok1
  | false =>
    have hq : q = true := by
      rcases hb with z | z
      · cases z
      · exact z
    refine ⟨plus F H as, dOf env, plus_sub S.fh, R.dz hn, ?_⟩
    have e0 : vw false env = dOf env := rfl
    rw [e0] at hns herr k wish
    cases hm : mi (dOf env) with
    | stuck => exact absurd hm hns
    | err x => exact wish x hm
    | items ds =>
      intro J H' F1 e g f ok
      have ff : Ex F (U.less F1 as) := fun a u hu => by
        have na : a ∉ as := fun ha => by
          rw [hn a ha] at hu
          cases hu
        unfold U.less
        rw [if_neg na]
        exact g.ex a u (by unfold plus; rw [if_neg na]; exact hu)
      have gg : Gr H F (U.less F1 as) := ⟨ff, fun a h1 h2 => by
        unfold U.less at h2
        split at h2
        · exact absurd rfl h2
        · rename_i na
          exact g.new a (by unfold plus; rw [if_neg na]; exact h1) h2⟩
      refine k ds J H' (U.less F1 as) as hm (R.mono ff fun a _ o h => e a o h) ⟨⟨S.own.one, fun a ha => ⟨(S.own.fr a ha).1, by unfold U.less; rw [if_pos ha]⟩⟩, S.bh.trans e, S.gr.trans gg S.bh, fun a u hu => ?_⟩ (ok as (.inr ⟨hq, fun a ha => ?_⟩))
      · unfold U.less at hu
        split at hu
        · cases hu
        · exact f a u hu
      · obtain ⟨o', ho', c⟩ := hc a ha
        exact ⟨o', by unfold plus; rw [if_pos ha]; exact ho', c⟩
theorem s_for (b : Bool) {q : Bool} {tg iter : Expr} {body : List Stmt} {pos : Pos} {mi : MI} {t : Tg} {mb : MS} (hp : PassesOwn (model X.prog X.w) X.A X.env X.xe) (hc : X.calm = true) (hi : SI X W q tg iter mi) (hg : GT X tg t) (hb : SSs X W B R body mb)
    (hq : b = true ∨ q = true := by first | exact .inl rfl | exact .inr rfl) (hs : ∀ x, foldedSetIterable iter X.env x = pure x := by intro _; rfl) : SS X W B R (.For tg iter body [] pos) (mFor b mi t mb) :=
  PS.weak (ps_for hp hc hi hg hb hs) fun D σ H ⟨F0, env, S, h⟩ => by
    unfold mFor at h
    refine Sta.evalI hq S (fun z => ?_) (fun y hy H' S' C hC => ?_) fun ds J H1 Fs as0 hm R1 S1 ok => ?_
    · rw [z] at h; exact h
    · rw [hy] at h; exact h σ H' S' C hC
    · rw [hm] at h
      have h := EndS.base S1.gr h
      refine ⟨fun i m σ H => m = ds.length - i ∧ i ≤ ds.length ∧ ∃ env, Sta X.K B Fs H σ env ∧ EndS X W B Fs R D (mLoop t mb (ds.drop i) env), ⟨ds.length, by simp, Nat.zero_le _, env, ⟨Fs, as0, R1, S1.own, S1.bh, Gr.refl _ _, S1.fh⟩, by simpa using h⟩, ?_⟩
      rintro i m σ H ⟨rfl, hi, env, S, h⟩
      obtain ⟨F, as, R2, S2⟩ := S
      obtain ⟨stop, go⟩ := ok i F H S2.gr.ex S2.fh
      by_cases hlt : i < ds.length
      · obtain ⟨g1, g2⟩ := go ds[i] (by simp [hlt])
        refine .inr ⟨g1, fun σ' H' => ∃ env, Sta X.K B Fs H' σ' env ∧ EndS X W B Fs R D (mLoop t mb (ds.drop (i + 1)) env), fun σ' H' p => ⟨ds.length - (i + 1), by omega, rfl, hlt, p⟩, fun x H' y => ?_⟩
        obtain ⟨e, F', g, f, rx⟩ := g2 x H' y
        rw [List.drop_eq_getElem_cons hlt] at h
        unfold mLoop at h
        have nb : ∀ a ∈ as, F' a = none := fun a ha => by
          cases hq : F' a with
          | none => rfl
          | some u =>
            have := g.new a (S2.own.fr a ha).2 (by rw [hq]; simp)
            obtain ⟨o', ho', _⟩ := R2.cell a ha
            rw [ho'] at this
            cases this
        cases hpt : t.put ds[i] env with
        | none => rw [hpt] at h; exact h.elim
        | some env1 =>
          rw [hpt] at h
          exact Tg.put_ok (B := B) (F0 := Fs) (R2.mono g.ex fun a _ o h => e a o h) ⟨⟨S2.own.one, fun a ha => ⟨(S2.own.fr a ha).1, nb a ha⟩⟩, S2.bh.trans e, S2.gr.trans g S2.bh, f⟩ rx hpt fun σ' S' => ⟨Fs, env1, S', EndS.turn h fun e he σ H S => ⟨e, S, he⟩⟩
      · have e : i = ds.length := by omega
        subst e
        rw [List.drop_length] at h
        exact .inl ⟨stop (Nat.le_refl _), h σ H ⟨F, as, R2, S2⟩⟩
/-! ### comprehensions -/
def wipeE : Ev → List Nat → Ev
  | ev, [] => ev
  | ev, j :: js => (wipeE ev js).set j none
def Tg.putE : Tg → D → Ev → Option Ev
  | .nm i, d, ev => some (ev.set i (some d))
  | .tp is, .tup ds, ev => if ds.length = is.length then some (go is ds ev) else none
  | .tp _, _, _ => none
where go : List Nat → List D → Ev → Ev
  | i :: is, d :: ds, ev => go is ds (ev.set i (some d))
  | _, _, ev => ev
def mLcL (t : Tg) (mc me : ME) (ev : Ev) : List D → List D → OE
  | [], acc => .val (.lst acc)
  | d :: ds, acc => match t.putE d ev with
    | some ev1 => (match mc ev1 with
      | .val (.bl true) => (match me ev1 with
        | .val y => if acc.length < 100000 then mLcL t mc me ev ds (acc ++ [y]) else .stuck
        | _ => .stuck)
      | .val (.bl false) => mLcL t mc me ev ds acc
      | _ => .stuck)
    | none => .stuck
def mLc (mi : MI) (t : Tg) (mc me : ME) (vs : List Nat) : ME := fun ev => match mi ev with
  | .items ds => mLcL t mc me (wipeE ev vs) ds []
  | .err x => .err x
  | .stuck => .stuck
end
theorem RFs.app {K : PySem.W.Frag} {F H : Hp} : ∀ {r1 r2 : List Fr} {v1 v2 : List V} {d1 d2 : List D} {as bs : List Addr}, RFs K F H r1 v1 d1 as → RFs K F H r2 v2 d2 bs → RFs K F H (r1 ++ r2) (v1 ++ v2) (d1 ++ d2) (as ++ bs)
  | _, _, _, _, _, _, _, _, .nil, q => q
  | _, _, _, _, _, _, _, _, .cons h t, q => by
    have := RFs.app t q
    rw [List.append_assoc]
    exact .cons h this
theorem RFs.snoc {K : PySem.W.Frag} {F H : Hp} {n : Nat} {r : Fr} {vs : List V} {v : V} {ds : List D} {d : D} {as bs : List Addr} (h : RFs K F H (List.replicate n r) vs ds as) (q : RF K F H r v d bs) : RFs K F H (List.replicate (n + 1) r) (vs ++ [v]) (ds ++ [d]) (as ++ bs) := by
  rw [List.replicate_succ']
  have h2 : RFs K F H [r] [v] [d] (bs ++ []) := .cons q .nil
  rw [List.append_nil] at h2
  exact h.app h2
theorem look_set : ∀ {ev : Ev} {i j : Nat} {x : Option D} {d : D}, look (ev.set j x) i = some d → (i = j ∧ x = some d ∧ j < ev.length) ∨ (i ≠ j ∧ look ev i = some d)
  | [], i, j, x, d, h => by simp [look] at h
  | y :: ev, 0, 0, x, d, h => by
    left
    exact ⟨rfl, by simpa [look] using h, by simp⟩
  | y :: ev, 0, j + 1, x, d, h => by
    right
    exact ⟨by omega, by simpa [look] using h⟩
  | y :: ev, i + 1, 0, x, d, h => by
    right
    exact ⟨by omega, by simpa [look] using h⟩
  | y :: ev, i + 1, j + 1, x, d, h => by
    rcases look_set (ev := ev) (i := i) (j := j) (x := x) (d := d) (by simpa [look] using h) with ⟨h1, h2, h3⟩ | ⟨h1, h2⟩
    · exact .inl ⟨by omega, h2, by simp; omega⟩
    · exact .inr ⟨by omega, by simpa [look] using h2⟩
theorem EnvZ.set {K : PySem.W.Frag} {F : Hp} {σ : L2.St} {ev : Ev} {v : V} {d : D} (h : EnvZ K F σ ev) (r : Rep K F v d) (j : Nat) : EnvZ K F (σ.set j (some v)) (ev.set j (some d)) := ⟨by simpa using h.len, fun i d' hl => by
  rcases look_set hl with ⟨rfl, h2, h3⟩ | ⟨h1, h2⟩
  · cases h2
    have := h.len
    exact ⟨v, by rw [List.getElem?_set_self (by omega)], r⟩
  · obtain ⟨u, h3, h4⟩ := h.at_ i d' h2
    exact ⟨u, by rw [List.getElem?_set_ne (Ne.symm h1)]; exact h3, h4⟩⟩
theorem EnvZ.wipe {K : PySem.W.Frag} {F : Hp} {σ : L2.St} {ev : Ev} (h : EnvZ K F σ ev) : ∀ vs : List Nat, EnvZ K F (L2.wipe σ vs) (wipeE ev vs)
  | [] => h
  | v :: vs => by
    have ih := EnvZ.wipe h vs
    refine ⟨?_, fun i d hl => ?_⟩
    · show ((wipeE ev vs).set v none).length ≤ ((L2.wipe σ vs).set v none).length
      simpa using ih.len
    · rcases look_set (ev := wipeE ev vs) (j := v) hl with ⟨_, h2, _⟩ | ⟨h1, h2⟩
      · cases h2
      · obtain ⟨u, h3, h4⟩ := ih.at_ i d h2
        refine ⟨u, ?_, h4⟩
        show ((L2.wipe σ vs).set v none)[i]? = _
        rw [List.getElem?_set_ne (Ne.symm h1)]
        exact h3
theorem wipe_eq {σ σ' : L2.St} {vs : List Nat} (hl : σ'.length = σ.length) (h : ∀ i, i ∉ vs → σ'[i]? = σ[i]?) : L2.wipe σ' vs = L2.wipe σ vs := by
  have key : ∀ (σ : L2.St) (vs : List Nat) i, i ∈ vs → i < σ.length → (L2.wipe σ vs)[i]? = some none := by
    intro σ vs
    induction vs with
    | nil => intro i hi; simp at hi
    | cons v vs ih =>
      intro i hi hlt
      show ((L2.wipe σ vs).set v none)[i]? = _
      by_cases e : v = i
      · subst e
        rw [List.getElem?_set_self (by rw [wipe_length]; exact hlt)]
      · rw [List.getElem?_set_ne e]
        exact ih i (by
          rcases List.mem_cons.mp hi with q | q
          · exact absurd q.symm e
          · exact q) hlt
  apply List.ext_getElem?
  intro i
  by_cases hi : i ∈ vs
  · by_cases hlt : i < σ.length
    · rw [key σ vs i hi hlt, key σ' vs i hi (by omega)]
    · rw [List.getElem?_eq_none (by rw [wipe_length]; omega), List.getElem?_eq_none (by rw [wipe_length]; omega)]
  · rw [wipe_out hi, wipe_out hi]
    exact h i hi
theorem wipe_wipe {σ : L2.St} {vs : List Nat} : L2.wipe (L2.wipe σ vs) vs = L2.wipe σ vs := wipe_eq (wipe_length _ _) fun i hi => wipe_out hi
def Tg.ins : Tg → List Nat
  | .nm i => [i]
  | .tp is => is
theorem setV_out : ∀ {is : List Nat} {σ : L2.St} {vs : List V} {i : Nat}, i ∉ is → (setV σ is vs)[i]? = σ[i]? ∧ (setV σ is vs).length = σ.length
  | [], σ, vs, i, _ => by cases vs <;> exact ⟨rfl, rfl⟩
  | j :: is, σ, [], i, _ => ⟨rfl, rfl⟩
  | j :: is, σ, v :: vs, i, h => by
    have h1 : i ≠ j := fun q => h (by rw [q]; simp)
    have h2 : i ∉ is := fun q => h (by simp [q])
    obtain ⟨a, b⟩ := setV_out (is := is) (σ := σ.set j (some v)) (vs := vs) h2
    exact ⟨by
      show (setV (σ.set j (some v)) is vs)[i]? = _
      rw [a, List.getElem?_set_ne (Ne.symm h1)], by
      show (setV (σ.set j (some v)) is vs).length = _
      rw [b, List.length_set]⟩
theorem setV_len {is : List Nat} {σ : L2.St} {vs : List V} : (setV σ is vs).length = σ.length := by
  induction is generalizing σ vs with
  | nil => cases vs <;> rfl
  | cons j is ih =>
    cases vs with
    | nil => rfl
    | cons v vs =>
      show (setV (σ.set j (some v)) is vs).length = _
      rw [ih, List.length_set]
theorem EnvZ.go {K : PySem.W.Frag} {F : Hp} : ∀ {is : List Nat} {vs : List V} {ds : List D} {σ : L2.St} {ev : Ev}, EnvZ K F σ ev → RepL K F vs ds → EnvZ K F (setV σ is vs) (Tg.putE.go is ds ev)
  | [], vs, ds, σ, ev, h, _ => by
    have e1 : setV σ [] vs = σ := by cases vs <;> rfl
    have e2 : Tg.putE.go [] ds ev = ev := by cases ds <;> rfl
    rw [e1, e2]
    exact h
  | i :: is, _, _, σ, ev, h, .nil => h
  | i :: is, v :: vs, d :: ds, σ, ev, h, .cons r t => EnvZ.go (is := is) (vs := vs) (ds := ds) (σ := σ.set i (some v)) (ev := ev.set i (some d)) (h.set r i) t
theorem Tg.putE_ok {K : PySem.W.Frag} {F H : Hp} {t : Tg} {σ : L2.St} {ev ev1 : Ev} {vs : List Nat} {v : V} {d : D} {Q : L2.St → Hp → Prop} (hF : Ex F H) (hz : EnvZ K F (L2.wipe σ vs) ev) (r : Rep K F v d) (h : t.putE d ev = some ev1) (hv : ∀ i ∈ t.ins, i ∈ vs)
    (k : ∀ σ', L2.wipe σ' vs = L2.wipe σ vs → EnvZ K F σ' ev1 → Q σ' H) : gT K t v (L2.wipe σ vs) H Q := by
  cases t with
  | nm i =>
    simp only [Tg.putE, Option.some.injEq] at h
    subst h
    exact k _ ((wipe_eq (σ := L2.wipe σ vs) (by simp) fun j hj => List.getElem?_set_ne fun q => hj (by rw [← q]; exact hv i (by simp [Tg.ins]))).trans wipe_wipe) (hz.set r i)
  | tp is =>
    cases r <;> first | (cases h; done) | skip
    rename_i a xs ds hs r
    by_cases hi : ds.length = is.length
    · simp only [Tg.putE, if_pos hi, Option.some.injEq] at h
      subst h
      exact ⟨a, xs, rfl, Evl.ex_t hF hs, by rw [r.len]; exact hi, k _ ((wipe_eq (σ := L2.wipe σ vs) setV_len fun j hj => (setV_out (is := is) fun q => hj (hv j q)).1).trans wipe_wipe) (EnvZ.go hz r)⟩
    · simp only [Tg.putE, if_neg hi] at h
      cases h
abbrev W0 : WX := fun _ _ _ _ => False
section
variable {X : Cx} {W : WX}
theorem t_lc {q : Bool} {mi : MI} {t : Tg} {mc me : ME} {vs : List Nat} {r : Fr} (hv : ∀ i ∈ t.ins, i ∈ vs) : ∀ σ H Q, tE X W (.l r) (mLc mi t mc me vs) σ H Q → tLc (tI X W q mi) (gT X.K t) (tT X W0 mc) (tE X W0 r me) vs σ H Q := fun σ H Q ⟨F, ev, hF, hz, hp⟩ => by
  refine ⟨F, ev, hF, hz, ?_⟩
  unfold mLc at hp
  cases hm : mi ev with
  | stuck => rw [hm] at hp; exact hp
  | err x => rw [hm] at hp; exact hp
  | items ds =>
    rw [hm] at hp
    intro J H1 F1 e1 g1 f1 ok Dl hD
    have ok := ok [] (.inl rfl)
    rw [less_nil] at ok
    have hp := Post.up hp g1 e1
    have z1 := hz.mono g1.ex
    have fD : F1 Dl = none := ex_none f1 hD
    refine ⟨fun i m H' => m = ds.length - i ∧ i ≤ ds.length ∧ ∃ F' accV accD as, Ex H1 H' ∧ Gr H1 F1 F' ∧ Ex F' H' ∧ F' Dl = none ∧ H' Dl = some (.lst accV) ∧ RFs X.K F' H' (List.replicate accV.length r) accV accD as ∧ Own H1 F' (Dl :: as) ∧
      Post X W σ Q F1 H1 (.l r) (mLcL t mc me (wipeE ev vs) (ds.drop i) accD), ⟨ds.length, by simp, Nat.zero_le _, F1, [], [], [], Evl.Ex.new hD, Gr.refl _ _, f1.trans (Evl.Ex.new hD), fD, upd_same, .nil, ⟨fun a => by rw [List.count_singleton]; split <;> omega, fun a ha => by
        have e : a = Dl := by simpa using ha
        rw [e]
        exact ⟨hD, fD⟩⟩, by simpa using hp⟩, ?_⟩
    rintro i m H' ⟨rfl, hi, F', accV, accD, as, eH, gF, fH, nD, hL, rf, o, hp⟩
    obtain ⟨stop, go⟩ := ok i F' H' gF.ex fH
    by_cases hlt : i < ds.length
    · obtain ⟨s1, s2⟩ := go ds[i] (by simp [hlt])
      refine .inr ⟨s1, fun H' => ∃ F' accV accD as, Ex H1 H' ∧ Gr H1 F1 F' ∧ Ex F' H' ∧ F' Dl = none ∧ H' Dl = some (.lst accV) ∧ RFs X.K F' H' (List.replicate accV.length r) accV accD as ∧ Own H1 F' (Dl :: as) ∧
        Post X W σ Q F1 H1 (.l r) (mLcL t mc me (wipeE ev vs) (ds.drop (i + 1)) accD), fun H' p => ⟨ds.length - (i + 1), by omega, rfl, hlt, p⟩, fun x H2 y => ?_⟩
      obtain ⟨e2, F2, g2, f2, rx⟩ := s2 x H2 y
      rw [List.drop_eq_getElem_cons hlt] at hp
      unfold mLcL at hp
      cases hpt : t.putE ds[i] (wipeE ev vs) with
      | none => rw [hpt] at hp; exact hp.elim
      | some ev1 =>
        rw [hpt] at hp
        dsimp only at hp
        refine Tg.putE_ok f2 ((z1.mono (gF.ex.trans g2.ex)).wipe vs) rx hpt hv fun σ2 hw z2 => ⟨hw, F2, ev1, f2, z2, ?_⟩
        have keepD : ∀ {F3 H3 : Hp}, Gr H2 F2 F3 → F3 Dl = none := fun {F3 H3} g3 => by
          have n2 : F2 Dl = none := by
            cases hq : F2 Dl with
            | none => rfl
            | some u =>
              have := g2.new Dl nD (by rw [hq]; simp)
              rw [hL] at this
              cases this
          cases hq : F3 Dl with
          | none => rfl
          | some u =>
            have := g3.new Dl n2 (by rw [hq]; simp)
            rw [e2 _ _ hL] at this
            cases this
        have keepA : ∀ {F3 : Hp}, Gr H2 F2 F3 → ∀ a ∈ as, F3 a = none := fun {F3} g3 a ha => by
          obtain ⟨oa, hoa, _⟩ := rf.cell a ha
          have n2 : F2 a = none := by
            cases hq : F2 a with
            | none => rfl
            | some u =>
              have := g2.new a (o.fr a (by simp [ha])).2 (by rw [hq]; simp)
              rw [hoa] at this
              cases this
          cases hq : F3 a with
          | none => rfl
          | some u =>
            have := g3.new a n2 (by rw [hq]; simp)
            rw [e2 _ _ hoa] at this
            cases this
        cases hmc : mc ev1 with
        | stuck => rw [hmc] at hp; exact hp.elim
        | err x => rw [hmc] at hp; exact hp.elim
        | val db =>
          rw [hmc] at hp
          cases db <;> first | exact hp.elim | skip
          rename_i b
          intro H3 e3
          cases b with
          | false =>
            rw [if_neg Bool.false_ne_true]
            exact ⟨F2, accV, accD, as, (eH.trans e2).trans e3, gF.trans g2 eH, f2.trans e3, keepD (H3 := H3) (Gr.refl _ _), e3 _ _ (e2 _ _ hL), rf.mono g2.ex fun a _ u hu => e3 a u (e2 a u hu), ⟨o.one, fun a ha => by
              rcases List.mem_cons.mp ha with q | q
              · rw [q]; exact ⟨hD, keepD (H3 := H3) (Gr.refl _ _)⟩
              · exact ⟨(o.fr a ha).1, keepA (Gr.refl _ _) a q⟩⟩, hp⟩
          | true =>
            rw [if_pos rfl]
            refine ⟨F2, ev1, f2.trans e3, z2, ?_⟩
            dsimp only at hp
            cases hme : me ev1 with
            | stuck => rw [hme] at hp; exact hp.elim
            | err x => rw [hme] at hp; exact hp.elim
            | val yd =>
              rw [hme] at hp
              dsimp only at hp
              by_cases hlen : accD.length < 100000
              · rw [if_pos hlen] at hp
                intro yv H4 F4 bs e4 g4 f4 rf4 o4
                have eH4 : Ex H' H4 := (e2.trans e3).trans e4
                have hL4 : H4 Dl = some (.lst accV) := eH4 _ _ hL
                have nD4 : F4 Dl = none := keepD (H3 := H4) (g4.base e3)
                have nA4 : ∀ a ∈ as, F4 a = none := keepA (g4.base e3)
                have hne : ∀ a ∈ as ++ bs, a ≠ Dl := fun a ha q => by
                  rcases List.mem_append.mp ha with ha | ha
                  · have h1 := o.one Dl
                    rw [List.count_cons_self] at h1
                    have h2 : 0 < as.count Dl := List.count_pos_iff.mpr (by rw [← q]; exact ha)
                    omega
                  · have := (o4.fr a ha).1
                    rw [q, e3 _ _ (e2 _ _ hL)] at this
                    cases this
                refine ⟨accV, hL4, Evl.sz_lt (by rw [rf.len.2]; exact hlen), F4, accV ++ [yv], accD ++ [yd], as ++ bs, ?_, ?_, ?_, nD4, upd_same, ?_, ⟨fun a => ?_, fun a ha => ?_⟩, hp⟩
                · exact Evl.Ex.mut (eH.trans eH4) hD
                · exact (gF.trans g2 eH).trans g4 ((eH.trans e2).trans e3)
                · exact Evl.Ex.mut f4 nD4
                · have r1 : RFs X.K F4 H4 (List.replicate accV.length r) accV accD as := rf.mono (g2.ex.trans g4.ex) fun a _ u hu => eH4 a u hu
                  have r2 := r1.snoc rf4
                  rw [List.length_append, List.length_singleton]
                  exact r2.mono (Ex.refl _) fun a ha u hu => by rw [upd_ne (hne a ha)]; exact hu
                · have h1 := o.one a
                  have h2 := o4.one a
                  rw [List.count_cons] at h1 ⊢
                  rw [List.count_append]
                  by_cases hb : a ∈ bs
                  · have hn3 := (o4.fr a hb).1
                    have c1 : as.count a = 0 := List.count_eq_zero.mpr fun ha => by
                      obtain ⟨oa, hoa, _⟩ := rf.cell a ha
                      rw [e3 _ _ (e2 _ _ hoa)] at hn3
                      cases hn3
                    have c2 : ¬ ((Dl == a) = true) := fun q => by
                      have q' : Dl = a := by simpa using q
                      rw [← q', e3 _ _ (e2 _ _ hL)] at hn3
                      cases hn3
                    rw [if_neg c2]
                    omega
                  · have c1 : bs.count a = 0 := List.count_eq_zero.mpr hb
                    omega
                · rcases List.mem_cons.mp ha with q | q
                  · rw [q]; exact ⟨hD, nD4⟩
                  · rcases List.mem_append.mp q with q | q
                    · exact ⟨(o.fr a (by simp [q])).1, nA4 a q⟩
                    · exact ⟨ex_none ((eH.trans e2).trans e3) (o4.fr a q).1, (o4.fr a q).2⟩
              · rw [if_neg hlen] at hp
                exact hp.elim
    · have e : i = ds.length := by omega
      subst e
      rw [List.drop_length] at hp
      exact .inl ⟨stop (Nat.le_refl _), hp (.ref Dl) H' F' (Dl :: as) eH gF fH (.l hL rf) o⟩
end
section
variable {X : Cx} {W : WX} {B : Hp} {R : Fr}
/-- [e for x in xs if ..] as a value -/
theorem e_lc {elt tg iter : Expr} {ifs : List Expr} {scope : Scope} {own : List (Str × Nat)} {pos : Pos} {q : Bool} {mi : MI} {t : Tg} {mc me : ME} {r : Fr} (hc : X.calm = true) (hN : X.N.Nodup) (hi : SI X W q tg iter mi) (ok : BlkOk X.N X.env.scope scope own)
    (hg : ∀ (s : Shared) (H : Hp) (C : Addr) (cl : List (Str × Addr)) (fp : List Addr), GT (X.blk s H scope (compEnvC scope cl C X.env) fp) tg t) (ht : ∀ (s : Shared) (H : Hp) (C : Addr) (cl : List (Str × Addr)) (fp : List Addr), PTs (X.blk s H scope (compEnvC scope cl C X.env) fp) ifs (tT X W0 mc))
    (he : ∀ (s : Shared) (H : Hp) (C : Addr) (cl : List (Str × Addr)) (fp : List Addr), SE (X.blk s H scope (compEnvC scope cl C X.env) fp) W0 r elt me) (hv : ∀ i ∈ t.ins, i ∈ own.map (·.2)) (hs : ∀ x, foldedSetIterable iter X.env x = pure x := by intro _; rfl) :
    SE X W (.l r) (.ListComp elt [⟨tg, iter, ifs, 0⟩] scope pos) (mLc mi t mc me (own.map (·.2))) :=
  PE.weak (pe_lc (g := gT X.K t) (tt := tT X W0 mc) (te := tE X W0 r me) hc hN hi ok (fun s H C cl fp => hg s H C cl fp) ht (fun s H C cl fp => he s H C cl fp) hs) (t_lc hv)
/-- no condition, one condition -/
theorem ts_nil : PTs X [] (tT X W0 (mC (.bl true))) := ⟨fun pins s σ H Q I ⟨F, ev, hF, hz, hp⟩ => pts_nil.run pins s σ H Q I (hp H (Ex.refl _))⟩
theorem ts_one {c : Expr} {mc : ME} (h : ST X W0 c mc) : PTs X [c] (tT X W0 mc) := pts_one h
/-- name = [..] -/
theorem s_lc (b : Bool) {i : Nat} {y : Str} {py : Pos} {elt tg iter : Expr} {ifs : List Expr} {scope : Scope} {own : List (Str × Nat)} {pos spos : Pos} {q : Bool} {mi : MI} {t : Tg} {mc me : ME} {r : Fr} (hc : X.calm = true) (hN : X.N.Nodup) (hy : X.N[i]? = some y) (hyl : X.env.scope.names.lookup y = some .local)
    (hsw : swapsWith (.ListComp elt [⟨tg, iter, ifs, 0⟩] scope pos) (some (.Name y py)) spos.line X.env = pure true) (hi : SI X W q tg iter mi) (ok : BlkOk X.N X.env.scope scope own)
    (hg : ∀ (s : Shared) (H : Hp) (C : Addr) (cl : List (Str × Addr)) (fp : List Addr), GT (X.blk s H scope (compEnvC scope cl C X.env) fp) tg t) (ht : ∀ (s : Shared) (H : Hp) (C : Addr) (cl : List (Str × Addr)) (fp : List Addr), PTs (X.blk s H scope (compEnvC scope cl C X.env) fp) ifs (tT X W0 mc))
    (he : ∀ (s : Shared) (H : Hp) (C : Addr) (cl : List (Str × Addr)) (fp : List Addr), SE (X.blk s H scope (compEnvC scope cl C X.env) fp) W0 r elt me) (hv : ∀ i ∈ t.ins, i ∈ own.map (·.2)) (hb : b = true ∨ r.zf = true := by first | exact .inl rfl | exact .inr rfl) (hs : ∀ x, foldedSetIterable iter X.env x = pure x := by intro _; rfl) :
    SS X W B R (.Assign [.Name y py] (.ListComp elt [⟨tg, iter, ifs, 0⟩] scope pos) spos) (mAsg b i (.l r) (mLc mi t mc me (own.map (·.2)))) :=
  PS.weak (ps_setLc (g := gT X.K t) (tt := tT X W0 mc) (te := tE X W0 r me) hc hN hy hyl hsw hi ok (fun s H C cl fp => hg s H C cl fp) ht (fun s H C cl fp => he s H C cl fp) hs) fun D σ H ⟨F0, env, S, h⟩ => by
    unfold mAsg at h
    have hb' : b = true ∨ (Fr.l r).zf = true := by
      rcases hb with z | z
      · exact .inl z
      · exact .inr (by simpa [Fr.zf] using z)
    refine t_lc hv σ H _ (Sta.eval hb' S (fun z => ?_) (fun y hy H' S' C hC => ?_) fun d v H' F' as bs hm R1 rf S1 _ => ?_)
    · rw [z] at h; exact h
    · rw [hy] at h; exact h σ H' S' C hC
    · rw [hm] at h
      dsimp only [onE] at h
      split at h
      · rename_i hi
        obtain ⟨cs, h1, h2⟩ := R1.set rf hi
        exact h _ _ ⟨F', cs, h1, S1.own.sub (fun a => by rw [List.count_append]; exact h2 a), S1.bh, S1.gr, S1.fh⟩
      · exact h.elim
/-! ### a, b = e -/
def mAsgT (b : Bool) (is : List Nat) (rs : List Fr) (me : ME) : MS := fun env => onE (me (vw b env)) env fun d => match d with
  | .tup ds => if ds.length = is.length ∧ ds.length = rs.length ∧ (∀ i ∈ is, i < env.length) then .next (setE env is rs ds) else .stuck
  | _ => .stuck
/-- what a tuple's parts are new in -/
theorem RF.parts {K : PySem.W.Frag} {F H : Hp} {r : Fr} {v : V} {ds : List D} {bs : List Addr} (h : RF K F H r v (.tup ds) bs) : ∃ a vs rs, v = .ref a ∧ SqT K F a vs ∧ RFs K F H rs vs ds bs ∧ (r = .t rs ∨ (r = .z ∧ rs = List.replicate ds.length .z) ∨ (r = .n ∧ rs = List.replicate ds.length .z)) := by
  cases h with
  | z h =>
    cases h with
    | tup h r => exact ⟨_, _, _, rfl, h, rfs_z r, .inr (.inl ⟨rfl, by rw [r.len]⟩)⟩
  | n h _ =>
    cases h with
    | tup h r => exact ⟨_, _, _, rfl, h, rfs_z r, .inr (.inr ⟨rfl, by rw [r.len]⟩)⟩
  | t h q => exact ⟨_, _, _, rfl, h, q, .inl rfl⟩
theorem s_asgT (b : Bool) {tg : Expr} {is : List Nat} {rs : List Fr} {e : Expr} {pos : Pos} {me : ME} (hg : GT X tg (.tp is)) (he : SE X W (.t rs) e me) (hb : b = true ∨ (Fr.t rs).zf = true := by first | exact .inl rfl | exact .inr rfl) (hs : swapsWithSole [tg] e pos.line X.env = pure false := by rfl) (hw : swappedStores [tg] e X.env = pure none := by rfl) (h1 : (assignEach [tg] X.env).map (·.2) = [assign tg X.env] := by rfl) :
    SS X W B R (.Assign [tg] e pos) (mAsgT b is rs me) := PS.weak (ps_asg he hg hs hw h1) fun D σ H ⟨F0, env, S, h⟩ => by
    unfold mAsgT at h
    refine Sta.eval hb S (fun z => ?_) (fun y hy H' S' C hC => ?_) fun d v H' F' as bs hm R1 rf S1 _ => ?_
    · rw [z] at h; exact h
    · rw [hy] at h; exact h σ H' S' C hC
    · rw [hm] at h
      dsimp only [onE] at h
      cases d <;> first | exact h.elim | skip
      rename_i ds
      dsimp only at h
      split at h
      · rename_i hi
        obtain ⟨a, vs, rs', rfl, hs, q, hr⟩ := rf.parts
        have er : rs' = rs := by
          rcases hr with e | ⟨e, _⟩ | ⟨e, _⟩
          · cases e; rfl
          · cases e
          · cases e
        subst er
        have hl : vs.length = is.length := by rw [q.len.2]; exact hi.1
        obtain ⟨cs, h1, h2⟩ := R1.setV q hi.2.2 hl
        exact ⟨a, vs, rfl, Evl.ex_t S1.fh hs, hl, h _ _ ⟨F', cs, h1, S1.own.sub (fun a => by rw [List.count_append]; exact h2 a), S1.bh, S1.gr, S1.fh⟩⟩
      · exact h.elim
/-- of a shared tuple -/
def mAsgTz (b : Bool) (is : List Nat) (me : ME) : MS := fun env => onE (me (vw b env)) env fun d => match d with
  | .tup ds => if ds.length = is.length ∧ (∀ i ∈ is, i < env.length) then .next (setE env is (List.replicate ds.length .z) ds) else .stuck
  | _ => .stuck
theorem s_asgTz (b : Bool) {tg : Expr} {is : List Nat} {r : Fr} {e : Expr} {pos : Pos} {me : ME} (hg : GT X tg (.tp is)) (he : SE X W r e me) (hr : r = .z ∨ r = .n := by first | exact .inl rfl | exact .inr rfl) (hb : b = true ∨ r.zf = true := by first | exact .inl rfl | exact .inr rfl) (hs : swapsWithSole [tg] e pos.line X.env = pure false := by rfl) (hw : swappedStores [tg] e X.env = pure none := by rfl) (h1 : (assignEach [tg] X.env).map (·.2) = [assign tg X.env] := by rfl) :
    SS X W B R (.Assign [tg] e pos) (mAsgTz b is me) := PS.weak (ps_asg he hg hs hw h1) fun D σ H ⟨F0, env, S, h⟩ => by
    unfold mAsgTz at h
    refine Sta.eval hb S (fun z => ?_) (fun y hy H' S' C hC => ?_) fun d v H' F' as bs hm R1 rf S1 _ => ?_
    · rw [z] at h; exact h
    · rw [hy] at h; exact h σ H' S' C hC
    · rw [hm] at h
      dsimp only [onE] at h
      cases d <;> first | exact h.elim | skip
      rename_i ds
      dsimp only at h
      split at h
      · rename_i hi
        obtain ⟨a, vs, rs', rfl, hs, q, hr'⟩ := rf.parts
        have er : rs' = List.replicate ds.length .z := by
          rcases hr' with e | ⟨e, e2⟩ | ⟨e, e2⟩
          · rcases hr with z | z <;> rw [z] at e <;> cases e
          · exact e2
          · exact e2
        subst er
        have hl : vs.length = is.length := by rw [q.len.2]; exact hi.1
        obtain ⟨cs, h1, h2⟩ := R1.setV q hi.2 hl
        exact ⟨a, vs, rfl, Evl.ex_t S1.fh hs, hl, h _ _ ⟨F', cs, h1, S1.own.sub (fun a => by rw [List.count_append]; exact h2 a), S1.bh, S1.gr, S1.fh⟩⟩
      · exact h.elim
end

/-! ### a cell within what is the frame's own -/
mutual
def frEq : Fr → Fr → Bool
  | .z, .z => true
  | .n, .n => true
  | .k, .k => true
  | .l a, .l b => frEq a b
  | .t a, .t b => frEqs a b
  | .la x a, .la y b => decide (x = y) && frEq a b
  | .ob a, .ob b => frEqs a b
  | .rc a, .rc b => frEqs a b
  | .op a, .op b => frEqs a b
  | _, _ => false
def frEqs : List Fr → List Fr → Bool
  | [], [] => true
  | a :: r, b :: s => frEq a b && frEqs r s
  | _, _ => false
end
mutual
theorem frEq_eq : ∀ {a b : Fr}, frEq a b = true → a = b
  | .z, b, h => by cases b <;> first | rfl | (simp [frEq] at h)
  | .n, b, h => by cases b <;> first | rfl | (simp [frEq] at h)
  | .k, b, h => by cases b <;> first | rfl | (simp [frEq] at h)
  | .l a, b, h => by
    cases b with
    | l b => rw [frEq_eq (a := a) (b := b) (by simpa [frEq] using h)]
    | _ => simp [frEq] at h
  | .t a, b, h => by
    cases b with
    | t b => rw [frEqs_eq (a := a) (b := b) (by simpa [frEq] using h)]
    | _ => simp [frEq] at h
  | .la x a, b, h => by
    cases b with
    | la y b =>
      simp only [frEq, Bool.and_eq_true, decide_eq_true_eq] at h
      rw [h.1, frEq_eq h.2]
    | _ => simp [frEq] at h
  | .ob a, b, h => by
    cases b with
    | ob b => rw [frEqs_eq (a := a) (b := b) (by simpa [frEq] using h)]
    | _ => simp [frEq] at h
  | .rc a, b, h => by
    cases b with
    | rc b => rw [frEqs_eq (a := a) (b := b) (by simpa [frEq] using h)]
    | _ => simp [frEq] at h
  | .op a, b, h => by
    cases b with
    | op b => rw [frEqs_eq (a := a) (b := b) (by simpa [frEq] using h)]
    | _ => simp [frEq] at h
theorem frEqs_eq : ∀ {a b : List Fr}, frEqs a b = true → a = b
  | [], b, h => by cases b <;> first | rfl | (simp [frEqs] at h)
  | x :: r, b, h => by
    cases b with
    | nil => simp [frEqs] at h
    | cons y s =>
      simp only [frEqs, Bool.and_eq_true] at h
      rw [frEq_eq h.1, frEqs_eq h.2]
end
inductive DigV (K : PySem.W.Frag) (G : Hp) : V → List Int → V → Prop
  | nil (x : V) : DigV K G x [] x
  | lst {a : Addr} {vs : List V} {j : Int} {js : List Int} {y z : V} (c : G a = some (.lst vs)) (i : atI vs j = some y) (h : DigV K G y js z) : DigV K G (.ref a) (j :: js) z
  | tup {a : Addr} {vs : List V} {j : Int} {js : List Int} {y z : V} (c : SqT K G a vs) (i : atI vs j = some y) (h : DigV K G y js z) : DigV K G (.ref a) (j :: js) z
/-- the last step apart -/
theorem DigV.split {K : PySem.W.Frag} {G : Hp} : ∀ {js : List Int} {x z : V} {j : Int}, DigV K G x (js ++ [j]) z → ∃ a vs, DigV K G x js (.ref a) ∧ (G a = some (.lst vs) ∨ SqT K G a vs) ∧ atI vs j = some z
  | [], x, z, j, h => by
    cases h with
    | lst c i h =>
      cases h
      exact ⟨_, _, .nil _, .inl c, i⟩
    | tup c i h =>
      cases h
      exact ⟨_, _, .nil _, .inr c, i⟩
  | _ :: js, x, z, j, h => by
    cases h with
    | lst c i h =>
      obtain ⟨a, vs, h1, h2, h3⟩ := DigV.split (js := js) h
      exact ⟨a, vs, .lst c i h1, h2, h3⟩
    | tup c i h =>
      obtain ⟨a, vs, h1, h2, h3⟩ := DigV.split (js := js) h
      exact ⟨a, vs, .tup c i h1, h2, h3⟩
def setI {α : Type} (xs : List α) (j : Int) (y : α) : List α := match ixN xs.length j with
  | some k => xs.set k y
  | none => xs
def dig : D → List Int → Option D
  | d, [] => some d
  | .lst ds, j :: js => (match atI ds j with
    | some d => dig d js
    | none => none)
  | .tup ds, j :: js => (match atI ds j with
    | some d => dig d js
    | none => none)
  | _, _ => none
def digF : Nat → Fr → List Int → Option Fr
  | _, r, [] => some r
  | n, .l r, _ :: js => digF n r js
  | n, .la _ r, _ :: js => digF n r js
  | n, .t rs, j :: js => (match atI rs j with
    | some r => digF n r js
    | none => none)
  | _, _, _ => none
def bury : D → List Int → D → D
  | _, [], y => y
  | .lst ds, j :: js, y => (match atI ds j with
    | some d => .lst (setI ds j (bury d js y))
    | none => .lst ds)
  | .tup ds, j :: js, y => (match atI ds j with
    | some d => .tup (setI ds j (bury d js y))
    | none => .tup ds)
  | d, _, _ => d
structure Hole (K : PySem.W.Frag) (F H : Hp) (r0 : Fr) (v0 : V) (as0 : List Addr) (r : Fr) (v : V) (d : D) (as : List Addr) (fill : D → D) : Prop where
  sub : RF K F H r v d as
  le : ∀ b, as.count b ≤ as0.count b
  put : ∀ F' H' d' as', Ex F F' → (∀ b ∈ as0, b ∉ as → ∀ o, H b = some o → H' b = some o) → RF K F' H' r v d' as' → ∃ cs, RF K F' H' r0 v0 (fill d') cs ∧ ∀ b, cs.count b + as.count b ≤ as0.count b + as'.count b
theorem mem_of_count {as bs : List Addr} {b : Addr} (h : as.count b ≤ bs.count b) (ha : b ∈ as) : b ∈ bs := by
  have : 0 < as.count b := List.count_pos_iff.mpr ha
  exact List.count_pos_iff.mp (by omega)
theorem Hole.refl {K : PySem.W.Frag} {F H : Hp} {r : Fr} {v : V} {d : D} {as : List Addr} (h : RF K F H r v d as) : Hole K F H r v as r v d as (fun y => y) := ⟨h, fun _ => Nat.le_refl _, fun F' H' d' as' _ _ q => ⟨as', q, fun b => by omega⟩⟩
theorem Hole.trans {K : PySem.W.Frag} {F H : Hp} {r0 r1 r2 : Fr} {v0 v1 v2 : V} {d1 d2 : D} {as0 as1 as2 : List Addr} {f g : D → D} (h : Hole K F H r0 v0 as0 r1 v1 d1 as1 f) (q : Hole K F H r1 v1 as1 r2 v2 d2 as2 g) (h1 : ∀ b, as0.count b ≤ 1) : Hole K F H r0 v0 as0 r2 v2 d2 as2 (fun y => f (g y)) :=
  ⟨q.sub, fun b => Nat.le_trans (q.le b) (h.le b), fun F' H' d' as' e pr rf => by
    obtain ⟨cs, c1, c2⟩ := q.put F' H' d' as' e (fun b hb hn o ho => pr b (mem_of_count (h.le b) hb) hn o ho) rf
    obtain ⟨cs', c3, c4⟩ := h.put F' H' (g d') cs e (fun b hb hn o ho => pr b hb (fun z => hn (mem_of_count (q.le b) z)) o ho) c1
    exact ⟨cs', c3, fun b => by
      have := c2 b
      have := c4 b
      omega⟩⟩
theorem RFs.hole {K : PySem.W.Frag} {F H : Hp} : ∀ {rs : List Fr} {vs : List V} {ds : List D} {as : List Addr} {i : Nat} {d : D}, RFs K F H rs vs ds as → (∀ b, as.count b ≤ 1) → ds[i]? = some d →
    ∃ r v bs, rs[i]? = some r ∧ vs[i]? = some v ∧ RF K F H r v d bs ∧ (∀ b, bs.count b ≤ as.count b) ∧ ∀ F' H' d' bs', Ex F F' → (∀ b ∈ as, b ∉ bs → ∀ o, H b = some o → H' b = some o) → RF K F' H' r v d' bs' →
      ∃ cs, RFs K F' H' rs vs (ds.set i d') cs ∧ ∀ b, cs.count b + bs.count b ≤ as.count b + bs'.count b
  | _, _, _, _, _, _, .nil, _, h => by simp at h
  | _, _, _, _, 0, d, .cons (as := as1) (bs := as2) q t, h1, h => by
    simp at h
    subst h
    refine ⟨_, _, as1, rfl, rfl, q, fun b => by rw [List.count_append]; omega, fun F' H' d' bs' e pr rf => ⟨bs' ++ as2, .cons rf (t.mono e fun a ha o ho => pr a (by simp [ha]) (fun z => ?_) o ho), fun b => by rw [List.count_append, List.count_append]; omega⟩⟩
    have := h1 a
    rw [List.count_append] at this
    have p1 : 0 < as1.count a := List.count_pos_iff.mpr z
    have p2 : 0 < as2.count a := List.count_pos_iff.mpr ha
    omega
  | _, _, _, _, i + 1, d, .cons (as := as1) (bs := as2) q t, h1, h => by
    obtain ⟨r, v, bs, e1, e2, e3, e4, put⟩ := RFs.hole (i := i) (d := d) t (fun b => by
      have := h1 b
      rw [List.count_append] at this
      omega) (by simpa using h)
    refine ⟨r, v, bs, by simpa using e1, by simpa using e2, e3, fun b => by rw [List.count_append]; have := e4 b; omega, fun F' H' d' bs' e pr rf => ?_⟩
    obtain ⟨cs, c1, c2⟩ := put F' H' d' bs' e (fun b hb hn o ho => pr b (by simp [hb]) hn o ho) rf
    refine ⟨as1 ++ cs, .cons (q.mono e fun a ha o ho => pr a (by simp [ha]) (fun z => ?_) o ho) c1, fun b => by
      rw [List.count_append, List.count_append]
      have := c2 b
      omega⟩
    have := h1 a
    rw [List.count_append] at this
    have p1 : 0 < as1.count a := List.count_pos_iff.mpr ha
    have p2 : 0 < as2.count a := List.count_pos_iff.mpr (mem_of_count (e4 a) z)
    omega
theorem atI_ix {α : Type} {xs : List α} {j : Int} {y : α} (h : atI xs j = some y) : ∃ k, ixN xs.length j = some k ∧ xs[k]? = some y := by
  unfold atI at h
  cases hx : ixN xs.length j with
  | none => rw [hx] at h; cases h
  | some k => rw [hx] at h; exact ⟨k, rfl, h⟩
theorem ix_atI {α : Type} {xs : List α} {j : Int} {k : Nat} {y : α} {n : Nat} (hn : n = xs.length) (h1 : ixN n j = some k) (h2 : xs[k]? = some y) : atI xs j = some y := by
  unfold atI
  rw [← hn, h1]
  exact h2
theorem RF.dig {K : PySem.W.Frag} {F H G : Hp} (hF : Ex F G) : ∀ {js : List Int} {r0 : Fr} {v0 : V} {d0 : D} {as0 : List Addr} {r : Fr} {d : D}, RF K F H r0 v0 d0 as0 → (∀ b, as0.count b ≤ 1) → (∀ a ∈ as0, ∀ o, H a = some o → G a = some o) →
    dig d0 js = some d → digF 0 r0 js = some r → ∃ v as, DigV K G v0 js v ∧ Hole K F H r0 v0 as0 r v d as (fun y => bury d0 js y)
  | [], r0, v0, d0, as0, r, d, h, h1, hG, hd, hr => by
    have e1 : d0 = d := by cases d0 <;> simpa [U.dig] using hd
    have e2 : r0 = r := by cases r0 <;> simpa [digF] using hr
    subst e1 e2
    refine ⟨v0, as0, .nil _, ?_⟩
    have e3 : (fun y => bury d0 [] y) = fun y => y := by
      funext y
      cases d0 <;> rfl
    rw [e3]
    exact Hole.refl h
  | j :: js, r0, v0, d0, as0, r, d, h, h1, hG, hd, hr => by
    cases h with
    | z h => simp [digF] at hr
    | n h q => simp [digF] at hr
    | k h q => simp [digF] at hr
    | kT h _ q => simp [digF] at hr
    | ob h _ _ q => simp [digF] at hr
    | rc h _ q => simp [digF] at hr
    | qn => simp [digF] at hr
    | qs h _ _ q => simp [digF] at hr
    | @l r1 a vs ds as c t =>
      have hd' := hd
      simp only [U.dig] at hd'
      cases hat : atI ds j with
      | none => rw [hat] at hd'; cases hd'
      | some d1 =>
        rw [hat] at hd'
        obtain ⟨k, hk, hdk⟩ := atI_ix hat
        have hc1 : ∀ b, as.count b ≤ 1 := fun b => by
          have := h1 b
          rw [List.count_cons] at this
          omega
        have na : a ∉ as := fun z => by
          have := h1 a
          rw [List.count_cons_self] at this
          have : 0 < as.count a := List.count_pos_iff.mpr z
          omega
        obtain ⟨r1', v1, bs, q1, q2, q3, q4, put⟩ := t.hole hc1 hdk
        have er : r1' = r1 := List.eq_of_mem_replicate (List.mem_of_getElem? q1)
        subst er
        have hole1 : Hole K F H (.l r1') (.ref a) (a :: as) r1' v1 d1 bs (fun y => .lst (ds.set k y)) := ⟨q3, fun b => by rw [List.count_cons]; have := q4 b; omega, fun F' H' d' bs' e pr rf => by
          obtain ⟨cs, c1, c2⟩ := put F' H' d' bs' e (fun b hb hn o ho => pr b (by simp [hb]) hn o ho) rf
          refine ⟨a :: cs, .l (pr a (by simp) (fun z => na (mem_of_count (q4 a) z)) _ c) c1, fun b => ?_⟩
          rw [List.count_cons, List.count_cons]
          have := c2 b
          omega⟩
        obtain ⟨v, as', g1, g2⟩ := RF.dig hF (js := js) q3 (fun b => Nat.le_trans (q4 b) (hc1 b)) (fun b hb o ho => hG b (by simp [mem_of_count (q4 b) hb]) o ho) hd' (by simpa [digF] using hr)
        refine ⟨v, as', .lst (hG a (by simp) _ c) (ix_atI t.len.2.symm hk q2) g1, ?_⟩
        have e3 : (fun y => bury (.lst ds) (j :: js) y) = fun y => D.lst (ds.set k (bury d1 js y)) := by
          funext y
          simp only [bury, hat, setI, hk]
        rw [e3]
        exact hole1.trans g2 h1
    | @la r1 a vs ds as c t =>
      have hd' := hd
      simp only [U.dig] at hd'
      cases hat : atI ds j with
      | none => rw [hat] at hd'; cases hd'
      | some d1 =>
        rw [hat] at hd'
        obtain ⟨k, hk, hdk⟩ := atI_ix hat
        have hc1 : ∀ b, as.count b ≤ 1 := fun b => by
          have := h1 b
          rw [List.count_cons] at this
          omega
        have na : a ∉ as := fun z => by
          have := h1 a
          rw [List.count_cons_self] at this
          have : 0 < as.count a := List.count_pos_iff.mpr z
          omega
        obtain ⟨r1', v1, bs, q1, q2, q3, q4, put⟩ := t.hole hc1 hdk
        have er : r1' = r1 := List.eq_of_mem_replicate (List.mem_of_getElem? q1)
        subst er
        have hole1 : Hole K F H (.la a r1') (.ref a) (a :: as) r1' v1 d1 bs (fun y => .lst (ds.set k y)) := ⟨q3, fun b => by rw [List.count_cons]; have := q4 b; omega, fun F' H' d' bs' e pr rf => by
          obtain ⟨cs, c1, c2⟩ := put F' H' d' bs' e (fun b hb hn o ho => pr b (by simp [hb]) hn o ho) rf
          refine ⟨a :: cs, .la (pr a (by simp) (fun z => na (mem_of_count (q4 a) z)) _ c) c1, fun b => ?_⟩
          rw [List.count_cons, List.count_cons]
          have := c2 b
          omega⟩
        obtain ⟨v, as', g1, g2⟩ := RF.dig hF (js := js) q3 (fun b => Nat.le_trans (q4 b) (hc1 b)) (fun b hb o ho => hG b (by simp [mem_of_count (q4 b) hb]) o ho) hd' (by simpa [digF] using hr)
        refine ⟨v, as', .lst (hG a (by simp) _ c) (ix_atI t.len.2.symm hk q2) g1, ?_⟩
        have e3 : (fun y => bury (.lst ds) (j :: js) y) = fun y => D.lst (ds.set k (bury d1 js y)) := by
          funext y
          simp only [bury, hat, setI, hk]
        rw [e3]
        exact hole1.trans g2 h1
    | @t rs a vs ds as c q =>
      have hd' := hd
      simp only [U.dig] at hd'
      cases hat : atI ds j with
      | none => rw [hat] at hd'; cases hd'
      | some d1 =>
        rw [hat] at hd'
        obtain ⟨k, hk, hdk⟩ := atI_ix hat
        obtain ⟨r1', v1, bs, q1, q2, q3, q4, put⟩ := q.hole h1 hdk
        have hole1 : Hole K F H (.t rs) (.ref a) as0 r1' v1 d1 bs (fun y => .tup (ds.set k y)) := ⟨q3, q4, fun F' H' d' bs' e pr rf => by
          obtain ⟨cs, c1, c2⟩ := put F' H' d' bs' e pr rf
          exact ⟨cs, .t (Evl.ex_t e c) c1, c2⟩⟩
        have hr' : digF 0 r1' js = some r := by
          simp only [digF] at hr
          rw [ix_atI (xs := rs) (by rw [q.len.1, q.len.2]) hk q1] at hr
          exact hr
        obtain ⟨v, as', g1, g2⟩ := RF.dig hF (js := js) q3 (fun b => Nat.le_trans (q4 b) (h1 b)) (fun b hb o ho => hG b (mem_of_count (q4 b) hb) o ho) hd' hr'
        refine ⟨v, as', .tup (Evl.ex_t hF c) (ix_atI q.len.2.symm hk q2) g1, ?_⟩
        have e3 : (fun y => bury (.tup ds) (j :: js) y) = fun y => D.tup (ds.set k (bury d1 js y)) := by
          funext y
          simp only [bury, hat, setI, hk]
        rw [e3]
        exact hole1.trans g2 h1
theorem EnvR.hole {K : PySem.W.Frag} {F H : Hp} {σ : L2.St} {env : Env} {as : List Addr} (h : EnvR K F H σ env as) : ∀ {i : Nat} {r : Fr} {d : D}, env[i]? = some (some (r, d)) → (∀ b, as.count b ≤ 1) →
    ∃ v bs, σ[i]? = some (some v) ∧ RF K F H r v d bs ∧ (∀ b, bs.count b ≤ as.count b) ∧ ∀ F' H' d' bs', Ex F F' → (∀ b ∈ as, b ∉ bs → ∀ o, H b = some o → H' b = some o) → RF K F' H' r v d' bs' →
      ∃ cs, EnvR K F' H' σ (env.set i (some (r, d'))) cs ∧ ∀ b, cs.count b + bs.count b ≤ as.count b + bs'.count b := by
  induction h with
  | nil => intro i r d h; simp at h
  | @skip s σ e as t ih =>
    intro i r d h h1
    cases i with
    | zero => simp at h
    | succ i =>
      obtain ⟨v, bs, e1, e2, e3, put⟩ := ih (i := i) (by simpa using h) h1
      refine ⟨v, bs, by simpa using e1, e2, e3, fun F' H' d' bs' e pr rf => ?_⟩
      obtain ⟨cs, c1, c2⟩ := put F' H' d' bs' e pr rf
      exact ⟨cs, .skip c1, c2⟩
  | @slot v σ r0 d0 e as1 as2 q t ih =>
    intro i r d h h1
    cases i with
    | zero =>
      simp at h
      obtain ⟨rfl, rfl⟩ := h
      refine ⟨v, as1, rfl, q, fun b => by rw [List.count_append]; omega, fun F' H' d' bs' e pr rf => ⟨bs' ++ as2, .slot rf (t.mono e fun a ha o ho => pr a (by simp [ha]) (fun z => ?_) o ho), fun b => by rw [List.count_append, List.count_append]; omega⟩⟩
      have := h1 a
      rw [List.count_append] at this
      have p1 : 0 < as1.count a := List.count_pos_iff.mpr z
      have p2 : 0 < as2.count a := List.count_pos_iff.mpr ha
      omega
    | succ i =>
      obtain ⟨u, bs, e1, e2, e3, put⟩ := ih (i := i) (by simpa using h) (fun b => by
        have := h1 b
        rw [List.count_append] at this
        omega)
      refine ⟨u, bs, by simpa using e1, e2, fun b => by rw [List.count_append]; have := e3 b; omega, fun F' H' d' bs' e pr rf => ?_⟩
      obtain ⟨cs, c1, c2⟩ := put F' H' d' bs' e (fun b hb hn o ho => pr b (by simp [hb]) hn o ho) rf
      refine ⟨as1 ++ cs, .slot (q.mono e fun a ha o ho => pr a (by simp [ha]) (fun z => ?_) o ho) c1, fun b => by
        rw [List.count_append, List.count_append]
        have := c2 b
        omega⟩
      have := h1 a
      rw [List.count_append] at this
      have p1 : 0 < as1.count a := List.count_pos_iff.mpr ha
      have p2 : 0 < as2.count a := List.count_pos_iff.mpr (mem_of_count (e3 a) z)
      omega
/-- x, x[a], x[a][b] ..: a place within what the name in slot i holds -/
def tPth (X : Cx) (W : WX) (i : Nat) (mj : MA) : TE := fun σ H Q => ∃ F ev, Ex F H ∧ EnvZ X.K F σ ev ∧ (match mj ev with
  | .vals ds => ∃ js x v, ds = js.map D.int ∧ σ[i]? = some (some x) ∧ DigV X.K F x js v ∧ ∀ H', Ex H H' → Q v H'
  | .err x => Wish X W σ H x
  | .stuck => False)
def SP (X : Cx) (W : WX) (i : Nat) (o : Expr) (mj : MA) : Prop := PE X o (tPth X W i mj)
def mSnoc (mj : MA) (mb : ME) : MA := fun ev => match mj ev with
  | .vals js => (match mb ev with
    | .val d => .vals (js ++ [d])
    | _ => .stuck)
  | o => o
section
variable {X : Cx} {W : WX} {B : Hp} {R : Fr}
theorem p_nm (i : Nat) {x : Str} {pos : Pos} (hN : X.N[i]? = some x := by rfl) (hv : Vis X.env.scope x := by first | exact Or.inl rfl | exact Or.inr (Or.inl rfl) | exact Or.inr (Or.inr rfl)) (hd : (x == ("__debug__" : Str)) = false := by decide)
    (hcd : (x == ("__classdict__" : Str)) = false := by decide) : SP X W i (.Name x pos) mNil := PE.weak (pe_var hN hv hd hcd) fun σ H Q ⟨F, ev, hF, hz, js, x, v, e1, e2, e3, k⟩ => by
  have ej : js = [] := by simpa using e1.symm
  subst ej
  cases e3
  exact ⟨_, e2, k H (Ex.refl _)⟩
theorem p_ix {i : Nat} {o b : Expr} {pos : Pos} {mj : MA} {mb : ME} {rb : Fr} (ho : SP X W i o mj) (hb : SE X W rb b mb) (hs : PlainIx b := by exact (fun _ _ => rfl)) : SP X W i (.Subscript o b pos) (mSnoc mj mb) :=
  PE.weak (pe_ix ix_seq ho hb.toZ hs) fun σ H Q ⟨F, ev, hF, hz, hp⟩ => by
    refine ⟨F, ev, hF, hz, ?_⟩
    unfold mSnoc at hp
    cases hj : mj ev with
    | stuck => rw [hj] at hp; exact hp
    | err x => rw [hj] at hp; exact hp
    | vals ds =>
      rw [hj] at hp
      dsimp only at hp
      cases hb : mb ev with
      | stuck => rw [hb] at hp; exact hp.elim
      | err x => rw [hb] at hp; exact hp.elim
      | val d =>
        rw [hb] at hp
        obtain ⟨js, x, v, e1, e2, e3, k⟩ := hp
        have e4 : ∃ js' j, js = js' ++ [j] ∧ ds = js'.map D.int ∧ d = .int j := by
          have hl : js ≠ [] := fun z => by rw [z] at e1; simp at e1
          obtain ⟨js', j, e5⟩ : ∃ js' j, js = js' ++ [j] := ⟨js.dropLast, js.getLast hl, (List.dropLast_concat_getLast hl).symm⟩
          subst e5
          rw [List.map_append, List.map_singleton] at e1
          obtain ⟨h1, h2⟩ := List.append_inj' e1 rfl
          exact ⟨js', j, rfl, h1, by simpa using h2⟩
        obtain ⟨js', j, rfl, rfl, rfl⟩ := e4
        obtain ⟨a, vs, g1, g2, g3⟩ := e3.split
        refine ⟨js', x, .ref a, rfl, e2, g1, fun H1 e5 => ⟨F, ev, hF.trans e5, hz, ?_⟩⟩
        rw [hb]
        intro y H2 F2 as2 e6 g6 f6 rf o
        cases rf with
        | z hr =>
          cases hr
          rcases g2 with g2 | g2
          · exact .inl ⟨a, vs, j, v, rfl, rfl, SqL.of (e6 _ _ (e5 _ _ (hF _ _ g2))), g3, k H2 (e5.trans e6)⟩
          · exact .inr (.inl ⟨a, vs, j, v, rfl, rfl, Evl.ex_t ((hF.trans e5).trans e6) g2, g3, k H2 (e5.trans e6)⟩)
/-- the intsD of a path -/
def intsD : List D → Option (List Int)
  | [] => some []
  | .int i :: r => (match intsD r with
    | some js => some (i :: js)
    | none => none)
  | _ :: _ => none
theorem intsD_map : ∀ {ds : List D} {js : List Int}, intsD ds = some js → ds = js.map D.int
  | [], js, h => by
    simp [intsD] at h
    subst h
    rfl
  | .int i :: r, js, h => by
    simp only [intsD] at h
    cases hr : intsD r with
    | none => rw [hr] at h; cases h
    | some ks =>
      rw [hr] at h
      cases h
      rw [intsD_map hr]
      rfl
  | .non :: _, js, h => by simp [intsD] at h
  | .bl _ :: _, js, h => by simp [intsD] at h
  | .str _ :: _, js, h => by simp [intsD] at h
  | .lst _ :: _, js, h => by simp [intsD] at h
  | .tup _ :: _, js, h => by simp [intsD] at h
  | .scr _ :: _, js, h => by simp [intsD] at h
  | .dct _ :: _, js, h => by simp [intsD] at h
  | .obj _ _ :: _, js, h => by simp [intsD] at h
  | .dcT _ :: _, js, h => by simp [intsD] at h
/-- the list that a path names, in the frame: its items, what of them is new -/
def cellAt (env : Env) (i : Nat) (js : List Int) : Option (Fr × List D) := match env[i]? with
  | some (some (r0, d0)) => (match dig d0 js, digF 0 r0 js with
    | some (.lst ds), some (.l r) => some (r, ds)
    | some (.lst ds), some (.la _ r) => some (r, ds)
    | _, _ => none)
  | _ => none
def putAt (env : Env) (i : Nat) (js : List Int) (ds : List D) : Env := match env[i]? with
  | some (some (r0, d0)) => env.set i (some (r0, bury d0 js (.lst ds)))
  | _ => env
/-- what is needed to change the list that a path names -/
theorem EnvR.cellAt {K : PySem.W.Frag} {F H : Hp} {σ : L2.St} {env : Env} {as : List Addr} {i : Nat} {js : List Int} {r : Fr} {ds : List D} {B : Hp} (h : EnvR K F H σ env as) (o : Own B F as) (hF : Ex F H) (hc : U.cellAt env i js = some (r, ds)) :
    ∃ x a vs ws, σ[i]? = some (some x) ∧ DigV K (plus F H as) x js (.ref a) ∧ a ∈ as ∧ H a = some (.lst vs) ∧ RFs K F H (List.replicate vs.length r) vs ds ws ∧ (∀ b, (a :: ws).count b ≤ as.count b) ∧
      ∀ F' H' vs' ds' ws', Ex F F' → Ex H H' → (RFs K F' (upd H' a (.lst vs')) (List.replicate vs'.length r) vs' ds' ws') → ∃ cs, EnvR K F' (upd H' a (.lst vs')) σ (putAt env i js ds') cs ∧ ∀ b, cs.count b + ws.count b ≤ as.count b + ws'.count b := by
  unfold U.cellAt at hc
  cases he : env[i]? with
  | none => rw [he] at hc; cases hc
  | some s =>
    rw [he] at hc
    cases s with
    | none => cases hc
    | some p =>
      obtain ⟨r0, d0⟩ := p
      dsimp only at hc
      cases hd : dig d0 js with
      | none => rw [hd] at hc; cases hc
      | some d1 =>
        rw [hd] at hc
        cases hr : digF 0 r0 js with
        | none => rw [hr] at hc; cases d1 <;> cases hc
        | some r1 =>
          rw [hr] at hc
          cases d1 <;> first | (cases hc; done) | skip
          cases r1 <;> first | (cases hc; done) | skip
          · cases hc
            obtain ⟨x, bs, e1, e2, e3, put⟩ := h.hole he o.one
            obtain ⟨v, cs, g1, g2⟩ := RF.dig (G := plus F H as) (plus_ex fun a ha => (o.fr a ha).2) e2 (fun b => Nat.le_trans (e3 b) (o.one b)) (fun a ha u hu => by unfold plus; rw [if_pos (mem_of_count (e3 a) ha)]; exact hu) hd hr
            have sub := g2.sub
            cases sub with
            | @l _ a vs _ ws c t =>
              have hle : ∀ b, (a :: ws).count b ≤ as.count b := fun b => Nat.le_trans (g2.le b) (e3 b)
              refine ⟨x, a, vs, ws, e1, g1, mem_of_count (hle a) (by simp), c, t, hle, fun F' H' vs' ds' ws' eF eH q => ?_⟩
              have keep : ∀ b ∈ as, b ∉ (a :: ws) → ∀ u, H b = some u → (upd H' a (.lst vs')) b = some u := fun b _ hb u hu => by
                rw [upd_ne (fun z => hb (by simp [z]))]
                exact eH b u hu
              obtain ⟨c1, k1, k2⟩ := g2.put F' (upd H' a (.lst vs')) (.lst ds') (a :: ws') eF (fun b hb hn u hu => keep b (mem_of_count (e3 b) hb) hn u hu) (.l upd_same q)
              obtain ⟨c2, k3, k4⟩ := put F' (upd H' a (.lst vs')) _ c1 eF (fun b hb hn u hu => keep b hb (fun z => hn (mem_of_count (g2.le b) z)) u hu) k1
              refine ⟨c2, ?_, fun b => ?_⟩
              · unfold putAt
                rw [he]
                exact k3
              · have h1 := k2 b
                have h2 := k4 b
                rw [List.count_cons, List.count_cons] at h1
                omega
          · rename_i a rq
            cases hc
            obtain ⟨x, bs, e1, e2, e3, put⟩ := h.hole he o.one
            obtain ⟨v, cs, g1, g2⟩ := RF.dig (G := plus F H as) (plus_ex fun a ha => (o.fr a ha).2) e2 (fun b => Nat.le_trans (e3 b) (o.one b)) (fun a ha u hu => by unfold plus; rw [if_pos (mem_of_count (e3 a) ha)]; exact hu) hd hr
            have sub := g2.sub
            cases sub with
            | @la _ _ vs _ ws c t =>
              have hle : ∀ b, (a :: ws).count b ≤ as.count b := fun b => Nat.le_trans (g2.le b) (e3 b)
              refine ⟨x, a, vs, ws, e1, g1, mem_of_count (hle a) (by simp), c, t, hle, fun F' H' vs' ds' ws' eF eH q => ?_⟩
              have keep : ∀ b ∈ as, b ∉ (a :: ws) → ∀ u, H b = some u → (upd H' a (.lst vs')) b = some u := fun b _ hb u hu => by
                rw [upd_ne (fun z => hb (by simp [z]))]
                exact eH b u hu
              obtain ⟨c1, k1, k2⟩ := g2.put F' (upd H' a (.lst vs')) (.lst ds') (a :: ws') eF (fun b hb hn u hu => keep b (mem_of_count (e3 b) hb) hn u hu) (.la upd_same q)
              obtain ⟨c2, k3, k4⟩ := put F' (upd H' a (.lst vs')) _ c1 eF (fun b hb hn u hu => keep b hb (fun z => hn (mem_of_count (g2.le b) z)) u hu) k1
              refine ⟨c2, ?_, fun b => ?_⟩
              · unfold putAt
                rw [he]
                exact k3
              · have h1 := k2 b
                have h2 := k4 b
                rw [List.count_cons, List.count_cons] at h1
                omega
/-- a statement that changes one list: the place, then what is put -/
def mMut (b : Bool) (i : Nat) (mj : MA) (r : Fr) (me : ME) (f : List D → D → Option (List D)) : MS := fun env => match mj (dOf env) with
  | .vals jd => (match intsD jd with
    | some js => (match cellAt env i js with
      | some (r', ds) => if frEq r' r = true then onE (me (vw b env)) env (fun d => match f ds d with
        | some ds' => .next (putAt env i js ds')
        | none => .stuck) else .stuck
      | none => .stuck)
    | none => .stuck)
  | _ => .stuck
end
section
variable {X : Cx} {W : WX} {B : Hp} {R : Fr}
theorem cnt_plus {as bs cs ws xs : List Addr} {b : Addr} (h1 : cs.count b + ws.count b ≤ as.count b + xs.count b) (h2 : xs.count b ≤ ws.count b + bs.count b) : cs.count b ≤ (as ++ bs).count b := by
  rw [List.count_append]
  omega
/-- the heart of each change at a path: Q is what the call then asks -/
theorem Sta.mut {F0 : Hp} {b : Bool} {i : Nat} {mj : MA} {r re : Fr} {me : ME} {f : List D → D → Option (List D)} {D : Ends} {σ : L2.St} {H : Hp} {env : Env} {Q : V → V → Hp → Prop} (hb : b = true ∨ re.zf = true) (S : Sta X.K B F0 H σ env) (h : EndS X W B F0 R D (mMut b i mj r me f env))
    (k : ∀ a v d vs ds ds' ws bs (F' H' : Hp), H' a = some (.lst vs) → RFs X.K F' H' (List.replicate vs.length r) vs ds ws → RF X.K F' H' re v d bs → f ds d = some ds' → (∀ c ∈ bs, c ≠ a) → a ∉ ws → Ex F' H' →
      (∀ vs' xs, RFs X.K F' (upd H' a (.lst vs')) (List.replicate vs'.length r) vs' ds' xs → (∀ c, xs.count c ≤ ws.count c + bs.count c) → D.nx σ (upd H' a (.lst vs'))) → Q (.ref a) v H') :
    tPth X W i mj σ H fun x H1 => tyV X.K "list" x H1 ∧ tE X W re me σ H1 fun y H2 => Q x y H2 := by
  obtain ⟨F, as, R0, S0⟩ := S
  refine ⟨plus F H as, dOf env, plus_sub S0.fh, R0.dz fun a ha => (S0.own.fr a ha).2, ?_⟩
  unfold mMut at h
  cases hj : mj (dOf env) with
  | stuck => rw [hj] at h; exact h
  | err x => rw [hj] at h; exact h.elim
  | vals jd =>
    rw [hj] at h
    dsimp only at h
    cases hi : intsD jd with
    | none => rw [hi] at h; exact h.elim
    | some js =>
      rw [hi] at h
      dsimp only at h
      cases hc : cellAt env i js with
      | none => rw [hc] at h; exact h.elim
      | some p =>
        obtain ⟨r', ds⟩ := p
        obtain ⟨x0, a, vs, ws, e1, e2, e3, e4, e5, e6, put⟩ := R0.cellAt S0.own S0.fh hc
        refine ⟨js, x0, .ref a, intsD_map hi, e1, e2, fun H1 eH1 => ⟨.inl ⟨rfl, vs, SqL.of (eH1 _ _ e4)⟩, ?_⟩⟩
        have R1 : EnvR X.K F H1 σ env as := R0.mono (Ex.refl _) fun a _ o h => eH1 a o h
        have S1 : Stt X.K B F0 F H1 as := ⟨S0.own, S0.bh.trans eH1, S0.gr, S0.fh.trans eH1⟩
        rw [hc] at h
        dsimp only at h
        by_cases hr : frEq r' r = true
        · rw [if_pos hr] at h
          cases frEq_eq hr
          refine Stt.eval hb R1 S1 (fun z => ?_) (fun y hy H' S' C hC => ?_) fun d v H' F' bs hm eH eF R2 rf S2 nb => ?_
          · rw [z] at h; exact h
          · rw [hy] at h
            exact h σ H' S' C hC
          · rw [hm] at h
            dsimp only [onE] at h
            cases hf : f ds d with
            | none => rw [hf] at h; exact h.elim
            | some ds' =>
              rw [hf] at h
              have nw : a ∉ ws := fun z => by
                have q1 := e6 a
                have q2 := S0.own.one a
                rw [List.count_cons_self] at q1
                have : 0 < ws.count a := List.count_pos_iff.mpr z
                omega
              refine k a v d vs ds ds' ws bs F' H' (eH _ _ (eH1 _ _ e4)) (e5.mono eF fun c hc u hu => eH c u (eH1 c u hu)) rf hf (fun c hcb z => ?_) nw S2.fh fun vs' xs q hq => ?_
              · have := nb c hcb
                rw [z, eH1 _ _ e4] at this
                cases this
              · obtain ⟨cs, c1, c2⟩ := put F' H' vs' ds' xs eF (eH1.trans eH) q
                refine h σ _ ⟨F', cs, c1, S2.own.sub fun c => cnt_plus (c2 c) (hq c), Evl.Ex.mut S2.bh (S2.own.fr a (by simp [e3])).1, S2.gr, Evl.Ex.mut S2.fh (S2.own.fr a (by simp [e3])).2⟩
        · rw [if_neg hr] at h
          exact h.elim
end
section
variable {X : Cx} {W : WX} {B : Hp} {R : Fr}
def fApp : List D → D → Option (List D) := fun ds d => if ds.length < 100000 then some (ds ++ [d]) else none
/-- x.append(e), x[i].append(e) .. -/
theorem s_app (b : Bool) (i : Nat) {o e : Expr} {apos cpos pos : Pos} {mj : MA} {r : Fr} {me : ME} (ho : SP X W i o mj) (he : SE X W r e me) (hb : b = true ∨ r.zf = true := by first | exact .inl rfl | exact .inr rfl)
    (hbase : attributeBase o "append" X.env (eval o X.env) = eval o X.env := by rfl)
    (hfew : ((backTo cpos (starEach (e :: []) X.env)).all (fun x => !x.1) && (backToKw cpos (keywordEach [] X.env)).all (fun x => x.1.isSome)
      && decide ((e :: []).length + ([] : List Keyword).length + (if ([] : List Keyword).isEmpty then 0 else 1) < 30)) = true := by rfl)
    (hline : (apos.endLine == cpos.line) = true := by rfl) (hst : starEach (e :: []) X.env = (false, eval e X.env) :: starEach [] X.env := by rfl) (hplain : (backTo cpos (starEach [] X.env)).any (·.1) = false := by rfl)
    (hs : swapsWith (.Call (.Attribute o "append" apos) [e] [] cpos) none pos.line X.env = pure false := by rfl) : SS X W B R (.Expr (.Call (.Attribute o "append" apos) [e] [] cpos) pos) (mMut b i mj r me fApp) :=
  PS.weak (ps_expr (pe_bm PySem.F.plainAttrs_list PySem.F.slot_list_append PySem.F.type_list_append mt_append ho (pa_cons he pa_nil hst) hbase hfew hline hst hplain) hs) fun D σ H ⟨F0, env, S, h⟩ =>
    Sta.mut hb S h fun a v d vs ds ds' ws bs F' H' ha rfs rf hf hne nw hF k => by
      unfold fApp at hf
      split at hf
      · rename_i hl
        cases hf
        refine ⟨a, vs, v, rfl, rfl, ha, Evl.sz_lt (by rw [rfs.len.2]; exact hl), k _ (ws ++ bs) ?_ fun c => by rw [List.count_append]; omega⟩
        rw [List.length_append, List.length_singleton]
        have q := rfs.snoc rf
        refine q.mono (Ex.refl _) fun c hc u hu => ?_
        rw [upd_ne (fun z => ?_)]
        · exact hu
        · rcases List.mem_append.mp hc with hc | hc
          · exact nw (z ▸ hc)
          · exact hne c hc z
      · cases hf
def fExt : List D → D → Option (List D) := fun ds d => match d with
  | .lst es => if ds.length + es.length < 100000 then some (ds ++ es) else none
  | _ => none
/-- x.extend(e), e a new list -/
theorem s_ext (b : Bool) (i : Nat) {o e : Expr} {apos cpos pos : Pos} {mj : MA} {r : Fr} {me : ME} (ho : SP X W i o mj) (he : SE X W (.l r) e me) (hb : b = true ∨ (Fr.l r).zf = true := by first | exact .inl rfl | exact .inr rfl)
    (hbase : attributeBase o "extend" X.env (eval o X.env) = eval o X.env := by rfl)
    (hfew : ((backTo cpos (starEach (e :: []) X.env)).all (fun x => !x.1) && (backToKw cpos (keywordEach [] X.env)).all (fun x => x.1.isSome)
      && decide ((e :: []).length + ([] : List Keyword).length + (if ([] : List Keyword).isEmpty then 0 else 1) < 30)) = true := by rfl)
    (hline : (apos.endLine == cpos.line) = true := by rfl) (hst : starEach (e :: []) X.env = (false, eval e X.env) :: starEach [] X.env := by rfl) (hplain : (backTo cpos (starEach [] X.env)).any (·.1) = false := by rfl)
    (hs : swapsWith (.Call (.Attribute o "extend" apos) [e] [] cpos) none pos.line X.env = pure false := by rfl) : SS X W B R (.Expr (.Call (.Attribute o "extend" apos) [e] [] cpos) pos) (mMut b i mj r me fExt) :=
  PS.weak (ps_expr (pe_bm PySem.F.plainAttrs_list PySem.F.slot_list_extend PySem.F.type_list_extend mt_extend ho (pa_cons he pa_nil hst) hbase hfew hline hst hplain) hs) fun D σ H ⟨F0, env, S, h⟩ =>
    Sta.mut hb S h fun a v d vs ds ds' ws bs F' H' ha rfs rf hf hne nw hF k => by
      cases rf with
      | @l _ c zs es cs hc t =>
        simp only [fExt] at hf
        split at hf
        · rename_i hl
          cases hf
          refine ⟨a, c, vs, zs, rfl, rfl, ha, hc, Evl.sz_of (by rw [rfs.len.2, t.len.2]; omega), k _ (ws ++ cs) ?_ fun x => by rw [List.count_append, List.count_cons]; omega⟩
          rw [List.length_append, ← List.replicate_append_replicate]
          refine (rfs.app t).mono (Ex.refl _) fun x hx u hu => ?_
          rw [upd_ne (fun z => ?_)]
          · exact hu
          · rcases List.mem_append.mp hx with hx | hx
            · exact nw (z ▸ hx)
            · exact hne x (by simp [hx]) z
        · cases hf
/-- x.extend(e), e a shared list -/
theorem s_extZ (b : Bool) (i : Nat) {o e : Expr} {apos cpos pos : Pos} {mj : MA} {r : Fr} {me : ME} (ho : SP X W i o mj) (he : SE X W r e me) (hb : b = true ∨ Fr.z.zf = true := by first | exact .inl rfl | exact .inr rfl)
    (hbase : attributeBase o "extend" X.env (eval o X.env) = eval o X.env := by rfl)
    (hfew : ((backTo cpos (starEach (e :: []) X.env)).all (fun x => !x.1) && (backToKw cpos (keywordEach [] X.env)).all (fun x => x.1.isSome)
      && decide ((e :: []).length + ([] : List Keyword).length + (if ([] : List Keyword).isEmpty then 0 else 1) < 30)) = true := by rfl)
    (hline : (apos.endLine == cpos.line) = true := by rfl) (hst : starEach (e :: []) X.env = (false, eval e X.env) :: starEach [] X.env := by rfl) (hplain : (backTo cpos (starEach [] X.env)).any (·.1) = false := by rfl)
    (hs : swapsWith (.Call (.Attribute o "extend" apos) [e] [] cpos) none pos.line X.env = pure false := by rfl) : SS X W B R (.Expr (.Call (.Attribute o "extend" apos) [e] [] cpos) pos) (mMut b i mj .z me fExt) :=
  PS.weak (ps_expr (pe_bm PySem.F.plainAttrs_list PySem.F.slot_list_extend PySem.F.type_list_extend mt_extend ho (pa_cons he.toZ pa_nil hst) hbase hfew hline hst hplain) hs) fun D σ H ⟨F0, env, S, h⟩ =>
    Sta.mut hb S h fun a v d vs ds ds' ws bs F' H' ha rfs rf hf hne nw hF k => by
      cases rf with
      | z hr =>
        cases hr <;> first | (cases hf; done) | skip
        rename_i c zs es hc t
        simp only [fExt] at hf
        split at hf
        · rename_i hl
          cases hf
          refine ⟨a, c, vs, zs, rfl, rfl, ha, hF _ _ hc, Evl.sz_of (by rw [rfs.len.2, t.len]; omega), k _ (ws ++ []) ?_ fun x => by rw [List.count_append]; simp⟩
          rw [List.length_append, ← List.replicate_append_replicate]
          refine (rfs.app (rfs_z t)).mono (Ex.refl _) fun x hx u hu => ?_
          rw [upd_ne (fun z => ?_)]
          · exact hu
          · rcases List.mem_append.mp hx with hx | hx
            · exact nw (z ▸ hx)
            · cases hx
        · cases hf
/-! ### raise C('..') -/
def mRaise (c : Str) : MS := fun env => .err c env
/-- an own class of errors, as the top has made it -/
structure ExF (K : PySem.W.Frag) (mg : Str → Option Value) (x : Str) (C : Addr) : Prop where
  g : mg x = some (.ref C)
  x : PySem.W.excIn K C [.type "ValueError", .type "Exception", .type "BaseException", .type "object"] "ValueError.__new__" = true
  k : PySem.W.keepIn K (.ref C) = true
  b : PySem.W.subIn K (.ref C) (.type "BaseException") = some true
  t : PySem.W.typeIn K (.ref C) = some (.type "type")
end
section
variable {X : Cx} {W : WX} {B : Hp} {R : Fr}
theorem s_raise {x m : Str} {j : Nat} {p p2 pos pos2 : Pos} {C : Addr} (hc : X.calm = true) (tk : Takes X W) (T : ExF X.K X.mg x C) (hg : Gl X x) (hdb : (x == ("__debug__" : Str)) = false := by decide) : SS X W B R (.Raise (some (.Call (.Name x p) [.Constant (.str m) j p2] [] pos)) none pos2) (mRaise x) :=
  PS.weak (ps_raise hc tk (pmk_own PySem.F.excBase_ValueError T.x T.g T.k (raises_own T.b T.t) hg hdb)) fun D σ H ⟨F0, env, S, h⟩ => h σ H S C T.g
/-! ### == , != , in, not in -/
def toPy : D → PyData
  | .non => .none
  | .bl b => .bool b
  | .int i => .int i
  | .str s => .str s
  | .lst xs => .list (toPys xs)
  | .tup xs => .tuple (toPys xs)
  | .scr ns => .list (ns.map PyData.int)
  | .dct _ => .dict []
  | .adr _ => .none
  | .obj _ _ => .none
  | .dcT _ => .none
where toPys : List D → List PyData
  | [] => []
  | x :: r => toPy x :: toPys r
mutual
/-- data of a depth below n, no dict in it -/
def okP : Nat → D → Bool
  | _, .non | _, .bl _ | _, .int _ | _, .str _ => true
  | 0, .lst _ | 0, .tup _ | 0, .scr _ => false
  | n + 1, .lst xs => okPs n xs
  | n + 1, .tup xs => okPs n xs
  | _ + 1, .scr _ => true
  | _, .dct _ => false
  | _, .adr _ => false
  | _, .obj _ _ => false
  | _, .dcT _ => false
def okPs : Nat → List D → Bool
  | _, [] => true
  | n, x :: r => okP n x && okPs n r
end
theorem plain_ints : ∀ ns : List Int, PyData.plainAll (ns.map PyData.int) = true
  | [] => rfl
  | n :: r => by simp only [List.map_cons, PyData.plainAll, PyData.plain, Bool.true_and]; exact plain_ints r
theorem depth_ints : ∀ ns : List Int, PyData.depthAll (ns.map PyData.int) = 0
  | [] => rfl
  | n :: r => by simp only [List.map_cons, PyData.depthAll, PyData.depth, depth_ints r]; rfl
mutual
theorem okP_plain : ∀ {n : Nat} {d : D}, okP n d = true → (toPy d).plain = true ∧ (toPy d).depth ≤ n
  | _, .non, _ => ⟨rfl, Nat.zero_le _⟩
  | _, .bl _, _ => ⟨rfl, Nat.zero_le _⟩
  | _, .int _, _ => ⟨rfl, Nat.zero_le _⟩
  | _, .str _, _ => ⟨rfl, Nat.zero_le _⟩
  | 0, .lst _, h => by simp [okP] at h
  | 0, .tup _, h => by simp [okP] at h
  | 0, .scr _, h => by simp [okP] at h
  | n + 1, .lst xs, h => by
    have q := okPs_plain (n := n) (xs := xs) (by simpa [okP] using h)
    simp only [toPy, PyData.plain, PyData.depth]
    exact ⟨q.1, by omega⟩
  | n + 1, .tup xs, h => by
    have q := okPs_plain (n := n) (xs := xs) (by simpa [okP] using h)
    simp only [toPy, PyData.plain, PyData.depth]
    exact ⟨q.1, by omega⟩
  | n + 1, .scr ns, h => by
    simp only [toPy, PyData.plain, PyData.depth, depth_ints]
    exact ⟨plain_ints ns, by omega⟩
  | 0, .dct _, h => by simp [okP] at h
  | n + 1, .dct _, h => by simp [okP] at h
  | 0, .adr _, h => by simp [okP] at h
  | n + 1, .adr _, h => by simp [okP] at h
  | 0, .obj _ _, h => by simp [okP] at h
  | n + 1, .obj _ _, h => by simp [okP] at h
  | 0, .dcT _, h => by simp [okP] at h
  | n + 1, .dcT _, h => by simp [okP] at h
theorem okPs_plain : ∀ {n : Nat} {xs : List D}, okPs n xs = true → PyData.plainAll (toPy.toPys xs) = true ∧ PyData.depthAll (toPy.toPys xs) ≤ n
  | _, [], _ => ⟨rfl, Nat.zero_le _⟩
  | n, x :: r, h => by
    simp only [okPs, Bool.and_eq_true] at h
    have q1 := okP_plain h.1
    have q2 := okPs_plain h.2
    simp only [toPy.toPys, PyData.plainAll, PyData.depthAll, q1.1, q2.1, Bool.and_self]
    exact ⟨trivial, by omega⟩
end
theorem dp_ints {K : PySem.W.Frag} {H : Hp} : ∀ ns : List Int, DpAll K H (ns.map V.int) (ns.map PyData.int)
  | [] => .nil
  | n :: r => .cons (.int n) (dp_ints r)
mutual
theorem Rep.dp {K : PySem.W.Frag} {F H : Hp} (e : Ex F H) : ∀ {v : V} {d : D} {n : Nat}, Rep K F v d → okP n d = true → Dp K H v (toPy d)
  | _, _, _, .non, _ => .non
  | _, _, _, .bl b, _ => .bl b
  | _, _, _, .int i, _ => .int i
  | _, _, _, .str s, _ => .str s
  | _, _, 0, .lst h r, q => by simp [okP] at q
  | _, _, 0, .tup h r, q => by simp [okP] at q
  | _, _, n + 1, .lst h r, q => .lst (SqL.of (e _ _ h)) (RepL.dp e (n := n) r (by simpa [okP] using q))
  | _, _, n + 1, .tup h r, q => .tup (Evl.ex_t e h) (RepL.dp e (n := n) r (by simpa [okP] using q))
  | _, _, n, .scr h, q => .lst (Evl.ex_l e h) (dp_ints _)
  | _, _, 0, .dct h r, q => by simp [okP] at q
  | _, _, n + 1, .dct h r, q => by simp [okP] at q
  | _, _, 0, .adr _, q => by simp [okP] at q
  | _, _, n + 1, .adr _, q => by simp [okP] at q
  | _, _, 0, .obj _ _ _ _, q => by simp [okP] at q
  | _, _, n + 1, .obj _ _ _ _, q => by simp [okP] at q
  | _, _, 0, .dcT _ _ _, q => by simp [okP] at q
  | _, _, n + 1, .dcT _ _ _, q => by simp [okP] at q
theorem RepL.dp {K : PySem.W.Frag} {F H : Hp} (e : Ex F H) : ∀ {vs : List V} {ds : List D} {n : Nat}, RepL K F vs ds → okPs n ds = true → DpAll K H vs (toPy.toPys ds)
  | _, _, _, .nil, _ => .nil
  | _, _, n, .cons h t, q => by
    simp only [okPs, Bool.and_eq_true] at q
    exact .cons (Rep.dp e h q.1) (RepL.dp e t q.2)
end
def rEqP (K : PySem.W.Frag) (neg : Bool) : R2 := fun x y H Q => ∃ d e, Dp K H x d ∧ Dp K H y e ∧ d.plain = true ∧ e.plain = true ∧ d.depth ≤ 60 ∧ Q (.bl (if neg = true then !PyData.eqv d e else PyData.eqv d e)) H
theorem op_eqP (hu : X.A.units + 64 < cLine) : OpR X (compareOp .Eq) (rEqP X.K false) := by
  intro pins s σ H x y v u Q I rx ry h
  obtain ⟨d, e, hd, he, sd, se, hdp, q⟩ := h
  obtain ⟨as, r1⟩ := Dp.reads I d x v hd rx
  obtain ⟨bs, r2⟩ := Dp.reads I e y u he ry
  exact SeqAt.eq_plain r1 r2 sd se (by omega) ⟨.bl _, H, I, rfl, q⟩
theorem op_neP (hu : X.A.units + 64 < cLine) : OpR X (compareOp .NotEq) (rEqP X.K true) := by
  intro pins s σ H x y v u Q I rx ry h
  obtain ⟨d, e, hd, he, sd, se, hdp, q⟩ := h
  obtain ⟨as, r1⟩ := Dp.reads I d x v hd rx
  obtain ⟨bs, r2⟩ := Dp.reads I e y u he ry
  exact SeqAt.ne_plain r1 r2 sd se (by omega) ⟨.bl _, H, I, rfl, q⟩
def eqD (x y : D) : Bool := PyData.eqv (toPy x) (toPy y)
def fEq : D → D → OE := fun x y => if okP 9 x = true ∧ okP 9 y = true then .val (.bl (eqD x y)) else .stuck
def fNe : D → D → OE := fun x y => if okP 9 x = true ∧ okP 9 y = true then .val (.bl (!eqD x y)) else .stuck
theorem opD_eq : OpD X W .n (rEqP X.K false) fEq := fun F H x y dx dy σ Q hF rx ry hp => by
  by_cases hc : okP 9 dx = true ∧ okP 9 dy = true
  · simp only [fEq, if_pos hc] at hp
    have p1 := okP_plain hc.1
    have p2 := okP_plain hc.2
    exact ⟨toPy dx, toPy dy, rx.dp hF hc.1, ry.dp hF hc.2, p1.1, p2.1, by omega, post_bl hF hp⟩
  · simp only [fEq, if_neg hc] at hp
    exact hp.elim
theorem opD_ne : OpD X W .n (rEqP X.K true) fNe := fun F H x y dx dy σ Q hF rx ry hp => by
  by_cases hc : okP 9 dx = true ∧ okP 9 dy = true
  · simp only [fNe, if_pos hc] at hp
    have p1 := okP_plain hc.1
    have p2 := okP_plain hc.2
    exact ⟨toPy dx, toPy dy, rx.dp hF hc.1, ry.dp hF hc.2, p1.1, p2.1, by omega, post_bl hF hp⟩
  · simp only [fNe, if_neg hc] at hp
    exact hp.elim
section
variable {a b c : Expr} {pos : Pos} {ra rb rc : Fr} {ma mb mc : ME} {k : Nat}
theorem e_eq (hr : Room k X.A) (ha : SE X W ra a ma) (hb : SE X W rb b mb) : SE X W .n (.Compare a [.Eq] [b] pos) (m2 fEq ma mb) := e_cmp (op_eqP hr.units) opD_eq ha hb (nomark _)
theorem e_ne (hr : Room k X.A) (ha : SE X W ra a ma) (hb : SE X W rb b mb) : SE X W .n (.Compare a [.NotEq] [b] pos) (m2 fNe ma mb) := e_cmp (op_neP hr.units) opD_ne ha hb (nomark _)
theorem st_eq (hr : Room k X.A) (ha : SE X W ra a ma) (hb : SE X W rb b mb) : ST X W (.Compare a [.Eq] [b] pos) (m2 fEq ma mb) := st_cmp (op_eqP hr.units) opD_eq ha hb (nomark _)
theorem st_ne (hr : Room k X.A) (ha : SE X W ra a ma) (hb : SE X W rb b mb) : ST X W (.Compare a [.NotEq] [b] pos) (m2 fNe ma mb) := st_cmp (op_neP hr.units) opD_ne ha hb (nomark _)
end
/-! in a list, in a tuple -/
def rInP (K : PySem.W.Frag) (neg : Bool) : R2 := fun x y H Q => ∃ d es, Dp K H x d ∧ (Dp K H y (.list es) ∨ Dp K H y (.tuple es)) ∧ d.plain = true ∧ PyData.plainAll es = true ∧ d.depth ≤ 60 ∧ Q (.bl (if neg = true then !es.any (fun z => PyData.eqv z d) else es.any (fun z => PyData.eqv z d))) H
theorem op_inP (hu : X.A.units + 64 < cLine) : OpR X (compareOp .In) (rInP X.K false) := by
  intro pins s σ H x y v u Q I rx ry h
  obtain ⟨d, es, hd, he, sd, se, hdp, q⟩ := h
  obtain ⟨as, r1⟩ := Dp.reads I d x v hd rx
  rcases he with he | he
  · obtain ⟨bs, r2⟩ := Dp.reads I _ y u he ry
    exact SeqAt.in_list_data r2 r1 se sd (by omega) ⟨.bl _, H, I, rfl, q⟩
  · obtain ⟨bs, r2⟩ := Dp.reads I _ y u he ry
    exact SeqAt.in_tuple_data r2 r1 se sd (by omega) ⟨.bl _, H, I, rfl, q⟩
theorem op_niP (hu : X.A.units + 64 < cLine) : OpR X (compareOp .NotIn) (rInP X.K true) := by
  intro pins s σ H x y v u Q I rx ry h
  obtain ⟨d, es, hd, he, sd, se, hdp, q⟩ := h
  obtain ⟨as, r1⟩ := Dp.reads I d x v hd rx
  rcases he with he | he
  · obtain ⟨bs, r2⟩ := Dp.reads I _ y u he ry
    exact SeqAt.notIn_list_data r2 r1 se sd (by omega) ⟨.bl _, H, I, rfl, q⟩
  · obtain ⟨bs, r2⟩ := Dp.reads I _ y u he ry
    exact SeqAt.notIn_tuple_data r2 r1 se sd (by omega) ⟨.bl _, H, I, rfl, q⟩
def inD (x : D) (ys : List D) : Bool := ys.any fun y => eqD y x
theorem inD_py (x : D) : ∀ ys : List D, (toPy.toPys ys).any (fun z => PyData.eqv z (toPy x)) = inD x ys
  | [] => rfl
  | y :: r => by
    simp only [toPy.toPys, inD, List.any_cons, eqD]
    rw [inD_py x r]
    rfl
def fIn (neg : Bool) : D → D → OE := fun x y => match y with
  | .lst ys => if okP 9 x = true ∧ okPs 9 ys = true then .val (.bl (if neg = true then !inD x ys else inD x ys)) else .stuck
  | .tup ys => if okP 9 x = true ∧ okPs 9 ys = true then .val (.bl (if neg = true then !inD x ys else inD x ys)) else .stuck
  | _ => .stuck
theorem opD_in (neg : Bool) : OpD X W .n (rInP X.K neg) (fIn neg) := fun F H x y dx dy σ Q hF rx ry hp => by
  cases ry <;> first | exact hp.elim | skip
  · rename_i a vs ys h r
    by_cases hc : okP 9 dx = true ∧ okPs 9 ys = true
    · simp only [fIn, if_pos hc] at hp
      have p1 := okP_plain hc.1
      have p2 := okPs_plain hc.2
      exact ⟨toPy dx, toPy.toPys ys, rx.dp hF hc.1, .inl (.lst (SqL.of (hF _ _ h)) (r.dp hF hc.2)), p1.1, p2.1, by omega, by rw [inD_py]; exact post_bl hF hp⟩
    · simp only [fIn, if_neg hc] at hp
      exact hp.elim
  · rename_i a vs ys h r
    by_cases hc : okP 9 dx = true ∧ okPs 9 ys = true
    · simp only [fIn, if_pos hc] at hp
      have p1 := okP_plain hc.1
      have p2 := okPs_plain hc.2
      exact ⟨toPy dx, toPy.toPys ys, rx.dp hF hc.1, .inr (.tup (Evl.ex_t hF h) (r.dp hF hc.2)), p1.1, p2.1, by omega, by rw [inD_py]; exact post_bl hF hp⟩
    · simp only [fIn, if_neg hc] at hp
      exact hp.elim
section
variable {a b c : Expr} {pos : Pos} {ra rb rc : Fr} {ma mb mc : ME} {k : Nat}
theorem e_in (hr : Room k X.A) (ha : SE X W ra a ma) (hb : SE X W rb b mb) (hm : behindInMarks .In b = false := by with_unfolding_all rfl) : SE X W .n (.Compare a [.In] [b] pos) (m2 (fIn false) ma mb) := e_cmp (op_inP hr.units) (opD_in false) ha hb hm
theorem e_ni (hr : Room k X.A) (ha : SE X W ra a ma) (hb : SE X W rb b mb) (hm : behindInMarks .NotIn b = false := by with_unfolding_all rfl) : SE X W .n (.Compare a [.NotIn] [b] pos) (m2 (fIn true) ma mb) := e_cmp (op_niP hr.units) (opD_in true) ha hb hm
theorem st_in (hr : Room k X.A) (ha : SE X W ra a ma) (hb : SE X W rb b mb) (hm : behindInMarks .In b = false := by with_unfolding_all rfl) : ST X W (.Compare a [.In] [b] pos) (m2 (fIn false) ma mb) := st_cmp (op_inP hr.units) (opD_in false) ha hb hm
theorem st_ni (hr : Room k X.A) (ha : SE X W ra a ma) (hb : SE X W rb b mb) (hm : behindInMarks .NotIn b = false := by with_unfolding_all rfl) : ST X W (.Compare a [.NotIn] [b] pos) (m2 (fIn true) ma mb) := st_cmp (op_niP hr.units) (opD_in true) ha hb hm
end
end
section
variable {X : Cx} {W : WX} {B : Hp} {R : Fr} {a b c : Expr} {pos p : Pos} {ra rb rc r1 r2 r3 : Fr} {ma mb mc : ME} {mas : MA}
/-! ### more of what is built in -/
def fMin2 : List D → OE
  | [.int i, .int j] => .val (.int (if j < i then j else i))
  | _ => .stuck
def fMax2 : List D → OE
  | [.int i, .int j] => .val (.int (if j > i then j else i))
  | _ => .stuck
theorem callD_I2 {g : Int → Int → Int} {f : List D → OE} (hf : ∀ ds, f ds = .stuck ∨ ∃ i j, ds = [.int i, .int j] ∧ f ds = .val (.int (g i j))) : CallD X W .n (fun xs H Q => ∃ i j, xs = [.int i, .int j] ∧ Q (.int (g i j)) H) f := fun F H vs ds σ Q hF r hp => by
  rcases hf ds with e | ⟨i, j, rfl, e⟩
  · rw [e] at hp; exact hp.elim
  · rw [e] at hp
    cases r with
    | cons h1 t =>
      cases t with
      | cons h2 t =>
        cases t
        cases h1
        cases h2
        exact ⟨i, j, rfl, post_int hF hp⟩
theorem e_min2 {rs : List Fr} (hc : X.calm = true) (hg : Gl X "min") (hm : X.mg "min" = none) (ha : SA X W rs [a, b] mas) (he : starEach [a, b] X.env = (false, eval a X.env) :: starEach [b] X.env := by rfl) (hpl : (backTo pos (starEach [b] X.env)).any (·.1) = false := by rfl) : SE X W .n (.Call (.Name "min" p) [a, b] [] pos) (mCall fMin2 mas) :=
  e_callB (call_min2 hc) (callD_I2 (g := fun i j => if j < i then j else i) fun ds => by
    rcases ds with _ | ⟨x, _ | ⟨y, _ | ⟨z, r⟩⟩⟩
    · exact .inl rfl
    · cases x <;> exact .inl rfl
    · cases x <;> cases y <;> first | exact .inl rfl | exact .inr ⟨_, _, rfl, rfl⟩
    · cases x <;> cases y <;> exact .inl rfl) hg hm (by decide +kernel) ha (he := he) (hpl := hpl)
theorem e_max2 {rs : List Fr} (hc : X.calm = true) (hg : Gl X "max") (hm : X.mg "max" = none) (ha : SA X W rs [a, b] mas) (he : starEach [a, b] X.env = (false, eval a X.env) :: starEach [b] X.env := by rfl) (hpl : (backTo pos (starEach [b] X.env)).any (·.1) = false := by rfl) : SE X W .n (.Call (.Name "max" p) [a, b] [] pos) (mCall fMax2 mas) :=
  e_callB (call_max2 hc) (callD_I2 (g := fun i j => if j > i then j else i) fun ds => by
    rcases ds with _ | ⟨x, _ | ⟨y, _ | ⟨z, r⟩⟩⟩
    · exact .inl rfl
    · cases x <;> exact .inl rfl
    · cases x <;> cases y <;> first | exact .inl rfl | exact .inr ⟨_, _, rfl, rfl⟩
    · cases x <;> cases y <;> exact .inl rfl) hg hm (by decide +kernel) ha (he := he) (hpl := hpl)
def fAbs : List D → OE
  | [.int i] => .val (.int (if i < 0 then -i else i))
  | _ => .stuck
theorem e_abs {rs : List Fr} (hg : Gl X "abs") (hm : X.mg "abs" = none) (ha : SA X W rs [a] mas) (he : starEach [a] X.env = (false, eval a X.env) :: starEach [] X.env := by rfl) : SE X W .n (.Call (.Name "abs" p) [a] [] pos) (mCall fAbs mas) :=
  e_callB call_abs (fun F H vs ds σ Q hF r hp => by
    cases r with
    | nil => exact hp.elim
    | cons h1 t =>
      cases t with
      | nil =>
        cases h1 <;> first | exact hp.elim | skip
        exact ⟨_, rfl, post_int hF hp⟩
      | cons h2 t => cases h1 <;> exact hp.elim) hg hm (by decide +kernel) ha (he := he)
def fInt : List D → OE
  | [.int i] => .val (.int i)
  | [.bl k] => .val (.int (if k = true then 1 else 0))
  | _ => .stuck
theorem e_intc {rs : List Fr} (hg : Gl X "int") (hm : X.mg "int" = none) (ha : SA X W rs [a] mas) (he : starEach [a] X.env = (false, eval a X.env) :: starEach [] X.env := by rfl) : SE X W .n (.Call (.Name "int" p) [a] [] pos) (mCall fInt mas) :=
  e_callT call_int1 (fun F H vs ds σ Q hF r hp => by
    cases r with
    | nil => exact hp.elim
    | cons h1 t =>
      cases t with
      | nil =>
        cases h1 <;> first | exact hp.elim | skip
        · exact .inr ⟨_, rfl, post_int hF hp⟩
        · exact .inl ⟨_, rfl, post_int hF hp⟩
      | cons h2 t => cases h1 <;> exact hp.elim) hg hm (by decide +kernel) ha (he := he)
def fList : List D → OE
  | [.lst ds] => .val (.lst ds)
  | [.tup ds] => .val (.lst ds)
  | [.scr ns] => .val (.lst (ns.map D.int))
  | _ => .stuck
theorem e_list {rs : List Fr} (hg : Gl X "list") (hm : X.mg "list" = none) (ha : SA X W rs [a] mas) (he : starEach [a] X.env = (false, eval a X.env) :: starEach [] X.env := by rfl) : SE X W (.l .z) (.Call (.Name "list" p) [a] [] pos) (mCall fList mas) :=
  e_callT call_list_of (fun F H vs ds σ Q hF r hp => by
    cases r with
    | nil => exact hp.elim
    | cons h1 t =>
      cases t with
      | nil =>
        cases h1 <;> first | exact hp.elim | skip
        · rename_i q vs ds h r
          exact ⟨q, vs, rfl, .inl (sq_of hF h), fun l hl => post_newL hF hp r hl⟩
        · rename_i q vs ds h r
          exact ⟨q, vs, rfl, .inr (Evl.ex_t hF h), fun l hl => post_newL hF hp r hl⟩
        · rename_i q ns h
          exact ⟨q, _, rfl, .inl (Evl.ex_l hF h), fun l hl => post_newL hF hp (repL_ints ns) hl⟩
      | cons h2 t => cases h1 <;> exact hp.elim) hg hm (by decide +kernel) ha (he := he)
def fTuple : List D → OE
  | [.lst ds] => .val (.tup ds)
  | [.tup ds] => .val (.tup ds)
  | _ => .stuck
theorem e_tuple {rs : List Fr} (hg : Gl X "tuple") (hm : X.mg "tuple" = none) (ha : SA X W rs [a] mas) (he : starEach [a] X.env = (false, eval a X.env) :: starEach [] X.env := by rfl) : SE X W .z (.Call (.Name "tuple" p) [a] [] pos) (mCall fTuple mas) :=
  e_callT call_tuple_of (fun F H vs ds σ Q hF r hp => by
    cases r with
    | nil => exact hp.elim
    | cons h1 t =>
      cases t with
      | nil =>
        cases h1 <;> first | exact hp.elim | skip
        · rename_i q vs ds h r
          exact ⟨q, vs, rfl, .inl ⟨sq_of hF h, fun l hl => post_newT hF hp r hl⟩⟩
        · rename_i q vs ds h r
          exact ⟨q, vs, rfl, .inr ⟨Evl.ex_t hF h, post_z hF hp (.tup h r)⟩⟩
      | cons h2 t => cases h1 <;> exact hp.elim) hg hm (by decide +kernel) ha (he := he)
/-! sums, greatest, least -/
def fSumL : List D → OE
  | [.lst ds] => (match intsD ds with
    | some ns => .val (.int ns.sum)
    | none => .stuck)
  | _ => .stuck
def maxI : List Int → Int
  | [] => 0
  | n :: r => r.foldl (fun m x => if x > m then x else m) n
def minI : List Int → Int
  | [] => 0
  | n :: r => r.foldl (fun m x => if x < m then x else m) n
def fMaxL : List D → OE
  | [.lst ds] => (match intsD ds with
    | some ns => if 0 < ns.length then .val (.int (maxI ns)) else .stuck
    | none => .stuck)
  | _ => .stuck
def fMinL : List D → OE
  | [.lst ds] => (match intsD ds with
    | some ns => if 0 < ns.length then .val (.int (minI ns)) else .stuck
    | none => .stuck)
  | _ => .stuck
theorem foldMax : ∀ (r : List Int) (n : Int), (r.foldl (fun m x => if x > m then x else m) n) ∈ n :: r ∧ ∀ y ∈ n :: r, y ≤ r.foldl (fun m x => if x > m then x else m) n
  | [], n => by simp
  | x :: r, n => by
    have ih := foldMax r (if x > n then x else n)
    simp only [List.foldl_cons]
    refine ⟨?_, fun y hy => ?_⟩
    · rcases List.mem_cons.mp ih.1 with e | e
      · rw [e]; split <;> simp
      · simp [e]
    · have h0 := ih.2 (if x > n then x else n) (by simp)
      rcases List.mem_cons.mp hy with e | hy
      · have q1 : n ≤ (if x > n then x else n) := by split <;> omega
        rw [e]
        exact Int.le_trans q1 h0
      · rcases List.mem_cons.mp hy with e | hy
        · have q1 : x ≤ (if x > n then x else n) := by split <;> omega
          rw [e]
          exact Int.le_trans q1 h0
        · exact ih.2 y (by simp [hy])
theorem foldMin : ∀ (r : List Int) (n : Int), (r.foldl (fun m x => if x < m then x else m) n) ∈ n :: r ∧ ∀ y ∈ n :: r, r.foldl (fun m x => if x < m then x else m) n ≤ y
  | [], n => by simp
  | x :: r, n => by
    have ih := foldMin r (if x < n then x else n)
    simp only [List.foldl_cons]
    refine ⟨?_, fun y hy => ?_⟩
    · rcases List.mem_cons.mp ih.1 with e | e
      · rw [e]; split <;> simp
      · simp [e]
    · have h0 := ih.2 (if x < n then x else n) (by simp)
      rcases List.mem_cons.mp hy with e | hy
      · have q1 : (if x < n then x else n) ≤ n := by split <;> omega
        rw [e]
        exact Int.le_trans h0 q1
      · rcases List.mem_cons.mp hy with e | hy
        · have q1 : (if x < n then x else n) ≤ x := by split <;> omega
          rw [e]
          exact Int.le_trans h0 q1
        · exact ih.2 y (by simp [hy])
theorem maxI_spec {ns : List Int} (h : 0 < ns.length) : maxI ns ∈ ns ∧ ∀ y ∈ ns, y ≤ maxI ns := by
  cases ns with
  | nil => simp at h
  | cons n r => exact foldMax r n
theorem minI_spec {ns : List Int} (h : 0 < ns.length) : minI ns ∈ ns ∧ ∀ y ∈ ns, minI ns ≤ y := by
  cases ns with
  | nil => simp at h
  | cons n r => exact foldMin r n
theorem RepL.ints {K : PySem.W.Frag} {F : Hp} : ∀ {vs : List V} {ds : List D} {ns : List Int}, RepL K F vs ds → ds = ns.map D.int → vs = ns.map V.int
  | _, _, ns, .nil, h => by
    have e : ns = [] := by simpa using h.symm
    rw [e]
    rfl
  | _, _, [], .cons _ _, h => by simp at h
  | _, _, n :: ns, .cons r t, h => by
    simp only [List.map_cons, List.cons.injEq] at h
    obtain ⟨rfl, h⟩ := h
    cases r
    rw [RepL.ints t h]
    rfl
theorem e_sumL {rs : List Fr} (hc : X.calm = true) (hg : Gl X "sum") (hm : X.mg "sum" = none) (ha : SA X W rs [a] mas) (he : starEach [a] X.env = (false, eval a X.env) :: starEach [] X.env := by rfl) : SE X W .n (.Call (.Name "sum" p) [a] [] pos) (mCall fSumL mas) :=
  e_callB (cr_sum hc) (fun F H vs ds σ Q hF r hp => by
    cases r with
    | nil => exact hp.elim
    | cons h1 t =>
      cases t with
      | nil =>
        cases h1 <;> first | exact hp.elim | skip
        rename_i q vs ds h r
        simp only [fSumL] at hp
        cases hi : intsD ds with
        | none => rw [hi] at hp; exact hp.elim
        | some ns =>
          rw [hi] at hp
          have e := r.ints (intsD_map hi)
          exact ⟨q, ns, rfl, by rw [← e]; exact sq_of hF h, post_int hF hp⟩
      | cons h2 t => cases h1 <;> exact hp.elim) hg hm (by decide +kernel) ha (he := he)
theorem e_maxL {rs : List Fr} (hc : X.calm = true) (hg : Gl X "max") (hm : X.mg "max" = none) (ha : SA X W rs [a] mas) (he : starEach [a] X.env = (false, eval a X.env) :: starEach [] X.env := by rfl) : SE X W .n (.Call (.Name "max" p) [a] [] pos) (mCall fMaxL mas) :=
  e_callB (cr_max hc) (fun F H vs ds σ Q hF r hp => by
    cases r with
    | nil => exact hp.elim
    | cons h1 t =>
      cases t with
      | nil =>
        cases h1 <;> first | exact hp.elim | skip
        rename_i q vs ds h r
        simp only [fMaxL] at hp
        cases hi : intsD ds with
        | none => rw [hi] at hp; exact hp.elim
        | some ns =>
          rw [hi] at hp
          by_cases hl : 0 < ns.length
          · simp only [hl, if_true] at hp
            have e := r.ints (intsD_map hi)
            refine ⟨q, ns, rfl, by rw [← e]; exact sq_of hF h, hl, fun m m1 m2 => ?_⟩
            have s := maxI_spec hl
            have em : m = maxI ns := Int.le_antisymm (s.2 m m1) (m2 _ s.1)
            rw [em]
            exact post_int hF hp
          · simp only [hl, if_false] at hp
            exact hp.elim
      | cons h2 t => cases h1 <;> exact hp.elim) hg hm (by decide +kernel) ha (he := he)
theorem e_minL {rs : List Fr} (hc : X.calm = true) (hg : Gl X "min") (hm : X.mg "min" = none) (ha : SA X W rs [a] mas) (he : starEach [a] X.env = (false, eval a X.env) :: starEach [] X.env := by rfl) : SE X W .n (.Call (.Name "min" p) [a] [] pos) (mCall fMinL mas) :=
  e_callB (cr_min hc) (fun F H vs ds σ Q hF r hp => by
    cases r with
    | nil => exact hp.elim
    | cons h1 t =>
      cases t with
      | nil =>
        cases h1 <;> first | exact hp.elim | skip
        rename_i q vs ds h r
        simp only [fMinL] at hp
        cases hi : intsD ds with
        | none => rw [hi] at hp; exact hp.elim
        | some ns =>
          rw [hi] at hp
          by_cases hl : 0 < ns.length
          · simp only [hl, if_true] at hp
            have e := r.ints (intsD_map hi)
            refine ⟨q, ns, rfl, by rw [← e]; exact sq_of hF h, hl, fun m m1 m2 => ?_⟩
            have s := minI_spec hl
            have em : m = minI ns := Int.le_antisymm (m2 _ s.1) (s.2 m m1)
            rw [em]
            exact post_int hF hp
          · simp only [hl, if_false] at hp
            exact hp.elim
      | cons h2 t => cases h1 <;> exact hp.elim) hg hm (by decide +kernel) ha (he := he)
/-! truths -/
def blsD : List D → Option (List Bool)
  | [] => some []
  | .bl i :: r => (match blsD r with
    | some js => some (i :: js)
    | none => none)
  | _ :: _ => none
theorem RepL.bls {K : PySem.W.Frag} {F : Hp} : ∀ {vs : List V} {ds : List D} {bs : List Bool}, RepL K F vs ds → blsD ds = some bs → vs = bs.map V.bl
  | _, _, bs, .nil, h => by
    simp [blsD] at h
    rw [h]
    rfl
  | _, _, bs, .cons (d := d) (ds := ds) r t, h => by
    cases d <;> first | (simp [blsD] at h; done) | skip
    simp only [blsD] at h
    cases hb : blsD ds with
    | none => rw [hb] at h; cases h
    | some js =>
      rw [hb] at h
      cases h
      cases r
      rw [RepL.bls t hb]
      rfl
def fall : List D → OE
  | [.lst ds] => (match blsD ds with
    | some bs => .val (.bl (bs.all id))
    | none => .stuck)
  | _ => .stuck
def fany : List D → OE
  | [.lst ds] => (match blsD ds with
    | some bs => .val (.bl (bs.any id))
    | none => .stuck)
  | _ => .stuck
theorem e_all {rs : List Fr} (hc : X.calm = true) (hg : Gl X "all") (hm : X.mg "all" = none) (ha : SA X W rs [a] mas) (he : starEach [a] X.env = (false, eval a X.env) :: starEach [] X.env := by rfl) : SE X W .n (.Call (.Name "all" p) [a] [] pos) (mCall fall mas) :=
  e_callB (cr_all hc) (fun F H vs ds σ Q hF r hp => by
    cases r with
    | nil => exact hp.elim
    | cons h1 t =>
      cases t with
      | nil =>
        cases h1 <;> first | exact hp.elim | skip
        rename_i q vs ds h r
        simp only [fall] at hp
        cases hi : blsD ds with
        | none => rw [hi] at hp; exact hp.elim
        | some ns =>
          rw [hi] at hp
          have e := r.bls hi
          exact ⟨q, ns, rfl, by rw [← e]; exact sq_of hF h, post_bl hF hp⟩
      | cons h2 t => cases h1 <;> exact hp.elim) hg hm (by decide +kernel) ha (he := he)
theorem e_any {rs : List Fr} (hc : X.calm = true) (hg : Gl X "any") (hm : X.mg "any" = none) (ha : SA X W rs [a] mas) (he : starEach [a] X.env = (false, eval a X.env) :: starEach [] X.env := by rfl) : SE X W .n (.Call (.Name "any" p) [a] [] pos) (mCall fany mas) :=
  e_callB (cr_any hc) (fun F H vs ds σ Q hF r hp => by
    cases r with
    | nil => exact hp.elim
    | cons h1 t =>
      cases t with
      | nil =>
        cases h1 <;> first | exact hp.elim | skip
        rename_i q vs ds h r
        simp only [fany] at hp
        cases hi : blsD ds with
        | none => rw [hi] at hp; exact hp.elim
        | some ns =>
          rw [hi] at hp
          have e := r.bls hi
          exact ⟨q, ns, rfl, by rw [← e]; exact sq_of hF h, post_bl hF hp⟩
      | cons h2 t => cases h1 <;> exact hp.elim) hg hm (by decide +kernel) ha (he := he)
/-! list + list, list * n -/
def fCat : D → D → OE := fun x y => match x, y with
  | .lst xs, .lst ys => if xs.length + ys.length < 100000 then .val (.lst (xs ++ ys)) else .stuck
  | _, _ => .stuck
theorem RepL.app {K : PySem.W.Frag} {F : Hp} : ∀ {vs ws : List V} {ds es : List D}, RepL K F vs ds → RepL K F ws es → RepL K F (vs ++ ws) (ds ++ es)
  | _, _, _, _, .nil, q => q
  | _, _, _, _, .cons h t, q => .cons h (RepL.app t q)
theorem e_catL (ha : SE X W ra a ma) (hb : SE X W rb b mb) : SE X W (.l .z) (.BinOp a .Add b pos) (m2 fCat ma mb) := e_op op_cat (fun F H x y dx dy σ Q hF rx ry hp => by
  cases rx <;> first | exact hp.elim | skip
  cases ry <;> first | exact hp.elim | skip
  rename_i q1 v1 d1 h1 r1 q2 v2 d2 h2 r2
  simp only [fCat] at hp
  by_cases hl : d1.length + d2.length < 100000
  · simp only [hl, if_true] at hp
    exact ⟨q1, q2, v1, v2, rfl, rfl, hF _ _ h1, hF _ _ h2, Evl.sz_of (by rw [r1.len, r2.len]; omega), fun l hq => post_newL hF hp (r1.app r2) hq⟩
  · simp only [hl, if_false] at hp
    exact hp.elim) ha hb
def fRep : D → D → OE := fun x y => match x, y with
  | .lst xs, .int k => if -1000 ≤ k ∧ k ≤ 1000 ∧ xs.length ≤ 50 then .val (.lst (List.replicate k.toNat xs).flatten) else .stuck
  | _, _ => .stuck
theorem RepL.rep {K : PySem.W.Frag} {F : Hp} {vs : List V} {ds : List D} (r : RepL K F vs ds) : ∀ n : Nat, RepL K F (List.replicate n vs).flatten (List.replicate n ds).flatten
  | 0 => .nil
  | n + 1 => by
    rw [List.replicate_succ, List.replicate_succ, List.flatten_cons, List.flatten_cons]
    exact r.app (RepL.rep r n)
theorem e_rep (ha : SE X W ra a ma) (hb : SE X W rb b mb) : SE X W (.l .z) (.BinOp a .Mult b pos) (m2 fRep ma mb) := e_op op_rep (fun F H x y dx dy σ Q hF rx ry hp => by
  cases rx <;> first | exact hp.elim | skip
  cases ry <;> first | exact hp.elim | skip
  rename_i q1 v1 d1 h1 r1 k
  simp only [fRep] at hp
  by_cases hl : -1000 ≤ k ∧ k ≤ 1000 ∧ d1.length ≤ 50
  · simp only [if_pos hl] at hp
    refine ⟨q1, k, v1, rfl, rfl, hF _ _ h1, by omega, by omega, ?_, fun l hq => post_newL hF hp (r1.rep _) hq⟩
    refine Evl.sz_of ?_
    rw [r1.len]
    have : d1.length * k.toNat ≤ 50 * 1000 := Nat.mul_le_mul hl.2.2 (by omega)
    omega
  · simp only [if_neg hl] at hp
    exact hp.elim) ha hb
/-! {} -/
theorem e_dnew : SE X W .k (.Dict [] [] pos) (mC (.dct [])) := PE.weak pe_dnewK fun σ H Q ⟨F, ev, hF, hz, hp⟩ => fun q hq => hp (.ref q) _ F [q] (Evl.Ex.new hq) (Gr.refl _ _) (hF.trans (Evl.Ex.new hq)) (.k upd_same .nil) ⟨fun a => by rw [List.count_singleton]; split <;> omega, fun a ha => by
    have e : a = q := by simpa using ha
    rw [e]
    exact ⟨hq, ex_none hF hq⟩⟩
/-! a new list whose items are without lists -/
def mLN (me : ME) : ME := fun ev => match me ev with
  | .val (.lst ds) => if noLs ds = true then .val (.lst ds) else .stuck
  | .val _ => .stuck
  | .stuck => .stuck
  | .err x => .err x
theorem rfs_n {K : PySem.W.Frag} {F H : Hp} (n : Nat) : ∀ {vs : List V} {ds : List D} {as : List Addr}, RFs K F H (List.replicate n .z) vs ds as → noLs ds = true → RFs K F H (List.replicate n .n) vs ds as := by
  induction n with
  | zero =>
    intro vs ds as h _
    cases h
    exact .nil
  | succ n ih =>
    intro vs ds as h q
    rw [List.replicate_succ] at h ⊢
    cases h with
    | cons h t =>
      simp only [noLs, Bool.and_eq_true] at q
      cases h with
      | z h => exact .cons (as := []) (.n h q.1) (ih t q.2)
theorem SE.toLN {e : Expr} {me : ME} (h : SE X W (.l .z) e me) : SE X W (.l .n) e (mLN me) := PE.weak h fun σ H Q ⟨F, ev, hF, hz, hp⟩ => ⟨F, ev, hF, hz, by
  unfold mLN at hp
  cases hm : me ev with
  | stuck => rw [hm] at hp; exact hp
  | err x => rw [hm] at hp; exact hp
  | val d =>
    rw [hm] at hp
    intro v H' F' as e g f rf o
    cases rf with
    | l hc t =>
      rename_i a vs ds as
      by_cases hn : noLs ds = true
      · simp only [hn, if_true] at hp
        exact hp _ H' F' _ e g f (.l hc (rfs_n _ t hn)) o
      · simp only [hn] at hp
        exact hp.elim⟩
/-! ### what a name holds of its own is handed back -/
def mRetV (i : Nat) (R : Fr) : MS := fun env => match env[i]? with
  | some (some (r, d)) => if frEq r R = true then .ret d else .stuck
  | _ => .stuck
theorem s_retV (i : Nat) {x : Str} {pos pos2 : Pos} (hN : X.N[i]? = some x := by rfl) (hv : Vis X.env.scope x := by first | exact Or.inl rfl | exact Or.inr (Or.inl rfl) | exact Or.inr (Or.inr rfl)) (hd : (x == ("__debug__" : Str)) = false := by decide)
    (hcd : (x == ("__classdict__" : Str)) = false := by decide) : SS X W B R (.Return (some (.Name x pos)) pos2) (mRetV i R) := PS.weak (ps_ret (pe_var hN hv hd hcd)) fun D σ H ⟨F0, env, S, h⟩ => by
  obtain ⟨F, as, R0, S0⟩ := S
  unfold mRetV at h
  cases he : env[i]? with
  | none => rw [he] at h; exact h.elim
  | some s =>
    rw [he] at h
    cases s with
    | none => exact h.elim
    | some q =>
      obtain ⟨r, d⟩ := q
      dsimp only at h
      by_cases hr : frEq r R = true
      · rw [if_pos hr] at h
        cases frEq_eq hr
        obtain ⟨v, bs, e1, e2, e3, _⟩ := R0.hole he S0.own.one
        exact ⟨v, e1, h v H ⟨F, bs, e2, S0.own.sub e3, S0.bh, S0.gr, S0.fh⟩⟩
      · rw [if_neg hr] at h
        exact h.elim
end
/-! ### the law's own end -/
/-- what is raised in a def that raises nothing -/
theorem fn0 {P : Program} {w : World} {K : PySem.W.Frag} {mg : Str → Option Value} {base : Heap} {k : Nat} {f : Addr} {fd : FuncData} {ps : List Str} {sp : Sp} (F : FnOk P w K mg base (L2.CX P w) k f fd ps sp) :
    FnOk P w K mg base CX0 k f fd ps (fun vs H Q _ => sp vs H Q (fun _ _ _ => False)) :=
  ⟨fun vs H Q E h => F.len vs H Q _ h, fun A outer s H args us vs Q E hr he hb hv hs => codeAny_mono (F.run A outer s H args us vs Q (fun _ _ _ => False) hr he hb hv hs) fun r s' hq => by
    cases r with
    | ok v => cases v <;> exact hq
    | error e =>
      have hq : L2.CX P w outer H s (fun _ _ _ => False) e s' := hq
      obtain ⟨_, _, _, _, _, _, _, _, _, _, _, _, z⟩ := hq
      exact z.elim⟩
def spLaw (K : PySem.W.Frag) (mg : Str → Option Value) (R : Fr) (mf : List D → OE) : Sp := fun vs H Q _ => spD K mg R mf vs H Q (fun _ _ _ => False)
theorem sp_law {K : PySem.W.Frag} {mg : Str → Option Value} {R : Fr} {mf : List D → OE} (hm : ∀ ns : List Int, ns.length ≤ 63 → mf [.scr ns] = .val (.bl true)) (H : Hp) (a : Addr) (ns : List Int) (hl : ns.length ≤ 63) (hS : SqL K H a (ns.map V.int)) :
    spLaw K mg R mf [.ref a] H (fun v _ => v = .bl true) (fun _ _ _ => False) := by
  refine ⟨H, [.scr ns], Ex.refl _, .cons (.scr hS) .nil, ?_⟩
  rw [hm ns hl]
  intro v H' F' as e g f rf o
  cases rf with
  | z h => cases h; rfl
  | n h _ => cases h; rfl
theorem exF_of {K : PySem.W.Frag} {h : Heap} {mg : Str → Option Value} {x : Str} (X : K.In h) (G : h.Ns mainGlobals mg) (c1 : (He.Fa.glo x).ok K = true) (c2 : (He.Fa.exc x).ok K = true) : ExF K mg x (He.ga K x) := by
  obtain ⟨h1, h2, h3, h4⟩ := He.exc_ok c2
  exact ⟨He.glo_ok X G c1, h1, h2, h3, h4⟩
/-! ### what is the frame's own is shared from here on -/
theorem EnvR.frz {K : PySem.W.Frag} {F H : Hp} {σ : L2.St} {env : Env} {as : List Addr} (h : EnvR K F H σ env as) : ∀ {i : Nat} {r : Fr} {d : D}, env[i]? = some (some (r, d)) → ∃ v bs cs, RF K F H r v d bs ∧ (∀ F', Ex F F' → Rep K F' v d → EnvR K F' H σ (env.set i (some (.z, d))) cs) ∧ ∀ a, cs.count a + bs.count a = as.count a := by
  induction h with
  | nil => intro i r d he; simp at he
  | @skip s σ e as t ih =>
    intro i r d he
    cases i with
    | zero => simp at he
    | succ i =>
      obtain ⟨v, bs, cs, h1, h2, h3⟩ := ih (by simpa using he)
      exact ⟨v, bs, cs, h1, fun F' e1 q => .skip (h2 F' e1 q), h3⟩
  | @slot v' σ r' d' e as' bs' h' t ih =>
    intro i r d he
    cases i with
    | zero =>
      simp only [List.getElem?_cons_zero, Option.some.injEq, Prod.mk.injEq] at he
      obtain ⟨rfl, rfl⟩ := he
      refine ⟨v', as', [] ++ bs', h', fun F' e1 q => .slot (.z q) (t.mono e1 fun a _ o h => h), fun a => ?_⟩
      rw [List.nil_append, List.count_append]
      omega
    | succ i =>
      obtain ⟨v, bs, cs, h1, h2, h3⟩ := ih (by simpa using he)
      refine ⟨v, bs, as' ++ cs, h1, fun F' e1 q => .slot (h'.mono e1 fun a _ o h => h) (h2 F' e1 q), fun a => ?_⟩
      have := h3 a
      rw [List.count_append, List.count_append]
      omega
def frz (i : Nat) (env : Env) : Env := match env[i]? with
  | some (some (_, d)) => env.set i (some (.z, d))
  | _ => env
theorem Sta.frz {K : PySem.W.Frag} {B F0 H : Hp} {σ : L2.St} {env : Env} (i : Nat) (S : Sta K B F0 H σ env) : Sta K B F0 H σ (frz i env) := by
  unfold U.frz
  cases he : env[i]? with
  | none => exact S
  | some s =>
    cases s with
    | none => exact S
    | some p =>
      obtain ⟨r, d⟩ := p
      obtain ⟨F, as, R, S⟩ := S
      obtain ⟨v, bs, cs, h1, h2, h3⟩ := R.frz he
      have ob : Own B F bs := S.own.sub fun a => by have := h3 a; omega
      have gb := plus_gr (H := H) ob
      refine ⟨plus F H bs, cs, h2 _ gb.ex (h1.frozen gb.ex fun a ha o ho => by unfold plus; rw [if_pos ha]; exact ho), ⟨⟨fun a => ?_, fun a ha => ?_⟩, S.bh, S.gr.trans gb (Ex.refl _), plus_sub S.fh⟩⟩
      · have := h3 a
        have := S.own.one a
        omega
      · have hp : 0 < cs.count a := List.count_pos_iff.mpr ha
        have e3 := h3 a
        have e1 := S.own.one a
        have nb : a ∉ bs := fun hb => by
          have : 0 < bs.count a := List.count_pos_iff.mpr hb
          omega
        have ia : a ∈ as := List.count_pos_iff.mp (by omega)
        refine ⟨(S.own.fr a ia).1, ?_⟩
        unfold plus
        rw [if_neg nb]
        exact (S.own.fr a ia).2
def mFrz (i : Nat) (ms : MS) : MS := fun env => ms (frz i env)
section
variable {X : Cx} {W : WX} {B : Hp} {R : Fr}
theorem s_frz (i : Nat) {st : Stmt} {ms : MS} (h : SS X W B R st ms) : SS X W B R st (mFrz i ms) := PS.weak h fun D σ H ⟨F0, env, S, q⟩ => ⟨F0, frz i env, S.frz i, q⟩
end
/-! ### x.clear(), x.reverse(), x.pop() -/
theorem tPth.mono {X : Cx} {W : WX} {i : Nat} {mj : MA} {σ : L2.St} {H : Hp} {Q Q' : VK} (h : tPth X W i mj σ H Q) (k : ∀ v H', Q v H' → Q' v H') : tPth X W i mj σ H Q' := by
  obtain ⟨F, ev, hF, hz, hp⟩ := h
  refine ⟨F, ev, hF, hz, ?_⟩
  cases hm : mj ev with
  | stuck => rw [hm] at hp; exact hp
  | err x => rw [hm] at hp; exact hp
  | vals ds =>
    rw [hm] at hp
    obtain ⟨js, x, v, h1, h2, h3, h4⟩ := hp
    exact ⟨js, x, v, h1, h2, h3, fun H' e => k v H' (h4 H' e)⟩
def fClr : List D → D → Option (List D) := fun _ _ => some []
def fRevM : List D → D → Option (List D) := fun ds _ => some ds.reverse
def fPop : List D → D → Option (List D) := fun ds _ => if ds = [] then none else some ds.dropLast
theorem RFs.rev {K : PySem.W.Frag} {F H : Hp} {r : Fr} : ∀ {n : Nat} {vs : List V} {ds : List D} {as : List Addr}, RFs K F H (List.replicate n r) vs ds as → ∃ bs, RFs K F H (List.replicate n r) vs.reverse ds.reverse bs ∧ ∀ a, bs.count a = as.count a
  | 0, _, _, _, .nil => ⟨[], .nil, fun _ => rfl⟩
  | n + 1, _, _, _, .cons (as := a1) (bs := b1) h t => by
    obtain ⟨bs, h1, h2⟩ := RFs.rev (n := n) t
    refine ⟨bs ++ a1, ?_, fun a => by rw [List.count_append, List.count_append, h2]; omega⟩
    rw [List.reverse_cons, List.reverse_cons]
    exact RFs.snoc h1 h
theorem RFs.dropLast {K : PySem.W.Frag} {F H : Hp} {r : Fr} : ∀ {n : Nat} {vs : List V} {ds : List D} {as : List Addr}, RFs K F H (List.replicate n r) vs ds as → ∃ bs, RFs K F H (List.replicate (n - 1) r) vs.dropLast ds.dropLast bs ∧ ∀ a, bs.count a ≤ as.count a
  | 0, _, _, _, .nil => ⟨[], .nil, fun _ => Nat.le_refl _⟩
  | 1, _, _, _, .cons h .nil => ⟨[], .nil, fun a => by simp⟩
  | n + 2, _, _, _, .cons (as := a1) h (.cons (as := a2) (bs := b2) h2 t) => by
    have hh : RFs K F H (List.replicate (n + 1) r) _ _ (a2 ++ b2) := .cons h2 t
    obtain ⟨bs, k1, k2⟩ := RFs.dropLast (n := n + 1) hh
    refine ⟨a1 ++ bs, ?_, fun a => by have := k2 a; rw [List.count_append, List.count_append]; omega⟩
    rw [List.dropLast_cons_cons, List.dropLast_cons_cons]
    exact .cons h k1
section
variable {X : Cx} {W : WX} {B : Hp} {R : Fr}
/-- the heart of each such call -/
theorem Sta.mut0 {F0 : Hp} {i : Nat} {mj : MA} {r : Fr} {f : List D → D → Option (List D)} {D : Ends} {σ : L2.St} {H : Hp} {env : Env} {Q : V → Hp → Prop} (S : Sta X.K B F0 H σ env) (h : EndS X W B F0 R D (mMut false i mj r (mC .non) f env))
    (k : ∀ a vs ds ds' ws (F' H' : Hp), H' a = some (.lst vs) → RFs X.K F' H' (List.replicate vs.length r) vs ds ws → f ds .non = some ds' → a ∉ ws →
      (∀ vs' xs, RFs X.K F' (upd H' a (.lst vs')) (List.replicate vs'.length r) vs' ds' xs → (∀ c, xs.count c ≤ ws.count c) → D.nx σ (upd H' a (.lst vs'))) → Q (.ref a) H') :
    tPth X W i mj σ H fun x H1 => tyV X.K "list" x H1 ∧ Q x H1 := by
  refine (Sta.mut (re := .n) (Q := fun x v H' => v = .non → Q x H') (.inr rfl) S h fun a v d vs ds ds' ws bs F' H' ha rfs rf hf hne nw eF kk => fun hv => ?_).mono fun v H' ⟨q1, q2⟩ => ⟨q1, ?_⟩
  · subst hv
    have hd : d = .non ∧ bs = [] := by
      cases rf with
      | n hr q =>
        cases hr
        exact ⟨rfl, rfl⟩
    obtain ⟨rfl, rfl⟩ := hd
    exact k a vs ds ds' ws F' H' ha rfs hf nw fun vs' xs q hq => kk vs' xs q fun c => by simpa using hq c
  · obtain ⟨F, ev, hF, hz, hp⟩ := q2
    exact hp .non H' F [] (Ex.refl _) (Gr.refl _ _) hF (.n .non rfl) .nil rfl
theorem RFs.updN {K : PySem.W.Frag} {F H : Hp} {rs : List Fr} {vs : List V} {ds : List D} {ws : List Addr} {a : Addr} {o : HO} (h : RFs K F H rs vs ds ws) (n : a ∉ ws) : RFs K F (upd H a o) rs vs ds ws := h.mono (Ex.refl _) fun x hx u hu => by
  rw [upd_ne (by intro z; subst z; exact n hx)]
  exact hu
theorem s_clr (i : Nat) {o : Expr} {apos cpos pos : Pos} {mj : MA} {r : Fr} (ho : SP X W i o mj) (hbase : attributeBase o "clear" X.env (eval o X.env) = eval o X.env := by rfl) (hline : (apos.endLine == cpos.line) = true := by rfl)
    (hs : swapsWith (.Call (.Attribute o "clear" apos) [] [] cpos) none pos.line X.env = pure false := by rfl) : SS X W B R (.Expr (.Call (.Attribute o "clear" apos) [] [] cpos) pos) (mMut false i mj r (mC .non) fClr) :=
  PS.weak (ps_expr (pe_bm0 PySem.F.plainAttrs_list PySem.F.slot_list_clear PySem.F.type_list_clear mt_clear ho hbase hline) hs) fun D σ H ⟨F0, env, S, h⟩ =>
    Sta.mut0 S h fun a vs ds ds' ws F' H' ha rfs hf nw k => by
      cases hf
      exact ⟨a, vs, rfl, rfl, ha, k [] [] .nil fun c => by simp⟩
theorem s_rev (i : Nat) {o : Expr} {apos cpos pos : Pos} {mj : MA} {r : Fr} (ho : SP X W i o mj) (hbase : attributeBase o "reverse" X.env (eval o X.env) = eval o X.env := by rfl) (hline : (apos.endLine == cpos.line) = true := by rfl)
    (hs : swapsWith (.Call (.Attribute o "reverse" apos) [] [] cpos) none pos.line X.env = pure false := by rfl) : SS X W B R (.Expr (.Call (.Attribute o "reverse" apos) [] [] cpos) pos) (mMut false i mj r (mC .non) fRevM) :=
  PS.weak (ps_expr (pe_bm0 PySem.F.plainAttrs_list PySem.F.slot_list_reverse PySem.F.type_list_reverse mt_reverse ho hbase hline) hs) fun D σ H ⟨F0, env, S, h⟩ =>
    Sta.mut0 S h fun a vs ds ds' ws F' H' ha rfs hf nw k => by
      cases hf
      obtain ⟨bs, h1, h2⟩ := rfs.rev
      have nb : a ∉ bs := fun z => nw (by
        have h3 := h2 a
        have : 0 < bs.count a := List.count_pos_iff.mpr z
        exact List.count_pos_iff.mp (by omega))
      exact ⟨a, vs, rfl, rfl, ha, k vs.reverse bs (by rw [List.length_reverse]; exact h1.updN nb) fun c => by rw [h2]; exact Nat.le_refl _⟩
theorem s_pop (i : Nat) {o : Expr} {apos cpos pos : Pos} {mj : MA} {r : Fr} (ho : SP X W i o mj) (hbase : attributeBase o "pop" X.env (eval o X.env) = eval o X.env := by rfl) (hline : (apos.endLine == cpos.line) = true := by rfl)
    (hs : swapsWith (.Call (.Attribute o "pop" apos) [] [] cpos) none pos.line X.env = pure false := by rfl) : SS X W B R (.Expr (.Call (.Attribute o "pop" apos) [] [] cpos) pos) (mMut false i mj r (mC .non) fPop) :=
  PS.weak (ps_expr (pe_bm0 PySem.F.plainAttrs_list PySem.F.slot_list_pop PySem.F.type_list_pop mt_pop ho hbase hline) hs) fun D σ H ⟨F0, env, S, h⟩ =>
    Sta.mut0 S h fun a vs ds ds' ws F' H' ha rfs hf nw k => by
      unfold fPop at hf
      split at hf
      · cases hf
      · rename_i hd
        cases hf
        obtain ⟨bs, h1, h2⟩ := rfs.dropLast
        have hl : 0 < vs.length := by rw [rfs.len.2]; exact List.length_pos_iff.mpr hd
        have nb : a ∉ bs := fun z => nw (by
          have h3 := h2 a
          have : 0 < bs.count a := List.count_pos_iff.mpr z
          exact List.count_pos_iff.mp (by omega))
        exact ⟨a, vs, vs[vs.length - 1], rfl, rfl, ha, List.getElem?_eq_getElem (by omega), k vs.dropLast bs (by rw [List.length_dropLast]; exact h1.updN nb) h2⟩
end
/-! ### x[..][i] = e -/
theorem RFs.put {K : PySem.W.Frag} {F H : Hp} {r : Fr} {v : V} {d : D} {bs : List Addr} (q : RF K F H r v d bs) : ∀ {n : Nat} {vs : List V} {ds : List D} {ws : List Addr} {j : Nat}, RFs K F H (List.replicate n r) vs ds ws → j < n → ∃ xs, RFs K F H (List.replicate n r) (vs.set j v) (ds.set j d) xs ∧ ∀ a, xs.count a ≤ ws.count a + bs.count a
  | n + 1, _, _, _, 0, .cons (as := a1) (bs := b1) h t, _ => ⟨bs ++ b1, .cons q t, fun a => by rw [List.count_append, List.count_append]; omega⟩
  | n + 1, _, _, _, j + 1, .cons (as := a1) (bs := b1) h t, hj => by
    obtain ⟨xs, h1, h2⟩ := RFs.put q (n := n) t (Nat.lt_of_succ_lt_succ hj)
    exact ⟨a1 ++ xs, .cons h h1, fun a => by have := h2 a; rw [List.count_append, List.count_append]; omega⟩
/-- the value, then the place, then the index -/
def mPut (b : Bool) (i : Nat) (mj : MA) (r : Fr) (mi me : ME) : MS := fun env => onE (me (vw b env)) env fun d => match mj (dOf env) with
  | .vals jd => (match intsD jd with
    | some js => (match cellAt env i js with
      | some (r', ds) => if frEq r' r = true then (match mi (dOf env) with
        | .val (.int k) => (match ixN ds.length k with
          | some j => .next (putAt env i js (ds.set j d))
          | none => .stuck)
        | _ => .stuck) else .stuck
      | none => .stuck)
    | none => .stuck)
  | _ => .stuck
section
variable {X : Cx} {W : WX} {B : Hp} {R : Fr}
theorem s_put (b : Bool) (i : Nat) {o ix e : Expr} {tpos pos : Pos} {mj : MA} {r ri : Fr} {mi me : ME} (ho : SP X W i o mj) (hi : SE X W ri ix mi) (he : SE X W r e me) (hb : b = true ∨ r.zf = true := by first | exact .inl rfl | exact .inr rfl)
    (ha : ∀ v, assign (.Subscript o ix tpos) X.env v = (do
      let ov ← holding [v] (eval o X.env)
      let iv ← holding [v, ov] (eval ix X.env)
      standAt tpos
      holding [v, ov, iv] (setItem ov iv v)
      release [v, ov, iv] []) := by intro _; rfl)
    (hs : swapsWithSole [.Subscript o ix tpos] e pos.line X.env = pure false := by rfl) (hw : swappedStores [.Subscript o ix tpos] e X.env = pure none := by rfl) (h1 : (assignEach [.Subscript o ix tpos] X.env).map (·.2) = [assign (.Subscript o ix tpos) X.env] := by rfl) :
    SS X W B R (.Assign [.Subscript o ix tpos] e pos) (mPut b i mj r mi me) :=
  PS.weak (ps_asg he (pg_sub ho hi set_list ha) hs hw h1) fun D σ H ⟨F0, env, S, h⟩ => by
    obtain ⟨F, as, R0, S0⟩ := S
    unfold mPut at h
    refine Stt.eval hb R0 S0 (fun z => ?_) (fun y hy H' S' C hC => ?_) fun d v H' F' bs hm eH eF R2 rf S2 nb => ?_
    · rw [z] at h; exact h
    · rw [hy] at h
      exact h σ H' S' C hC
    · rw [hm] at h
      dsimp only [onE] at h
      have Sa : Own B F' as := S2.own.sub fun a => by rw [List.count_append]; omega
      show tPth X W i mj σ H' _
      refine ⟨plus F' H' as, dOf env, plus_sub S2.fh, R2.dz fun a ha => (Sa.fr a ha).2, ?_⟩
      cases hj : mj (dOf env) with
      | stuck => rw [hj] at h; exact h
      | err x => rw [hj] at h; exact h.elim
      | vals jd =>
        rw [hj] at h
        dsimp only at h
        cases hi2 : intsD jd with
        | none => rw [hi2] at h; exact h.elim
        | some js =>
          rw [hi2] at h
          dsimp only at h
          cases hc : cellAt env i js with
          | none => rw [hc] at h; exact h.elim
          | some p =>
            obtain ⟨r', ds⟩ := p
            rw [hc] at h
            dsimp only at h
            by_cases hr : frEq r' r = true
            · rw [if_pos hr] at h
              cases frEq_eq hr
              cases hk : mi (dOf env) with
              | stuck => rw [hk] at h; exact h.elim
              | err x => rw [hk] at h; exact h.elim
              | val kd =>
                rw [hk] at h
                cases kd with
                | int k =>
                  dsimp only at h
                  cases hx : ixN ds.length k with
                  | none => rw [hx] at h; exact h.elim
                  | some j =>
                    rw [hx] at h
                    dsimp only at h
                    obtain ⟨x0, a, vs, ws, e1, e2, e3, e4, e5, e6, put⟩ := R2.cellAt Sa S2.fh hc
                    refine ⟨js, x0, .ref a, intsD_map hi2, e1, e2, fun H1 eH1 => ?_⟩
                    have R3 : EnvR X.K F' H1 σ env as := R2.mono (Ex.refl _) fun a _ o h => eH1 a o h
                    refine ⟨plus F' H1 as, dOf env, plus_sub (S2.fh.trans eH1), R3.dz fun a ha => (Sa.fr a ha).2, ?_⟩
                    rw [hk]
                    intro y H3 F3 cs eH3 _ _ rfi _
                    cases rf_int rfi
                    have eA : Ex H' H3 := eH1.trans eH3
                    have hlen : vs.length = ds.length := e5.len.2
                    have hjl : j < vs.length := by
                      rw [hlen]
                      unfold ixN at hx
                      split at hx
                      · split at hx
                        · cases hx; omega
                        · cases hx
                      · split at hx
                        · cases hx; omega
                        · cases hx
                    refine ⟨a, vs, k, j, rfl, rfl, eA _ _ e4, by rw [hlen]; exact hx, ?_⟩
                    have nw : a ∉ ws := fun z => by
                      have q1 := e6 a
                      have q2 := Sa.one a
                      rw [List.count_cons_self] at q1
                      have : 0 < ws.count a := List.count_pos_iff.mpr z
                      omega
                    have nbs : a ∉ bs := fun z => by
                      have q2 := S2.own.one a
                      rw [List.count_append] at q2
                      have h1 : 0 < as.count a := List.count_pos_iff.mpr e3
                      have h2 : 0 < bs.count a := List.count_pos_iff.mpr z
                      omega
                    have rfs3 : RFs X.K F' (upd H3 a (.lst (vs.set j v))) (List.replicate vs.length r) vs ds ws := (e5.mono (Ex.refl _) fun c hc u hu => eA c u hu).updN nw
                    have rf3 : RF X.K F' (upd H3 a (.lst (vs.set j v))) r v d bs := rf.mono (Ex.refl _) fun c hc u hu => by
                      rw [upd_ne (by intro z; subst z; exact nbs hc)]
                      exact eA c u hu
                    obtain ⟨xs, g1, g2⟩ := RFs.put rf3 rfs3 hjl
                    obtain ⟨cs2, c1, c2⟩ := put F' H3 (vs.set j v) (ds.set j d) xs (Ex.refl _) eA (by rw [List.length_set]; exact g1)
                    exact h σ _ ⟨F', cs2, c1, S2.own.sub fun c => cnt_plus (c2 c) (g2 c), Evl.Ex.mut (S2.bh.trans eA) (Sa.fr a e3).1, S2.gr, Evl.Ex.mut (S2.fh.trans eA) (Sa.fr a e3).2⟩
                | _ => exact h.elim
            · rw [if_neg hr] at h
              exact h.elim
end
/-! ### max, min of three -/
def fMax3 : List D → OE
  | [.int i, .int j, .int k] => .val (.int (max (max i j) k))
  | _ => .stuck
def fMin3 : List D → OE
  | [.int i, .int j, .int k] => .val (.int (min (min i j) k))
  | _ => .stuck
theorem callD_I3 {g : Int → Int → Int → Int} {f : List D → OE} {R : List V → Hp → VK → Prop} (hR : ∀ i j k H Q, Q (.int (g i j k)) H → R [.int i, .int j, .int k] H Q) (hf : ∀ ds, f ds = .stuck ∨ ∃ i j k, ds = [.int i, .int j, .int k] ∧ f ds = .val (.int (g i j k))) {X : Cx} {W : WX} : CallD X W .n R f := fun F H vs ds σ Q hF r hp => by
  rcases hf ds with e | ⟨i, j, k, rfl, e⟩
  · rw [e] at hp
    exact hp.elim
  · rw [e] at hp
    cases r with
    | cons h1 t =>
      cases t with
      | cons h2 t =>
        cases t with
        | cons h3 t =>
          cases t
          cases h1
          cases h2
          cases h3
          exact hR i j k H Q (post_int hF hp)
section
variable {X : Cx} {W : WX} {a b c : Expr} {p pos : Pos} {mas : MA}
theorem e_max3 {rs : List Fr} (hc : X.calm = true) (hg : Gl X "max") (hm : X.mg "max" = none) (ha : SA X W rs [a, b, c] mas) (he : starEach [a, b, c] X.env = (false, eval a X.env) :: starEach [b, c] X.env := by rfl) (hpl : (backTo pos (starEach [b, c] X.env)).any (·.1) = false := by rfl) : SE X W .n (.Call (.Name "max" p) [a, b, c] [] pos) (mCall fMax3 mas) :=
  e_callB (call_max3Nu hc) (callD_I3 (g := fun i j k => max (max i j) k) (fun i j k H Q h => by
    refine ⟨_, _, _, .int (max (max i j) k), rfl, ?_, h⟩
    show ((some (decide (i < j))).map fun c => if c = true then V.int j else V.int i).bind (fun m => nuMax2 m (V.int k)) = _
    have pick : ∀ x y : Int, (if decide (x < y) = true then V.int y else V.int x) = V.int (max x y) := fun x y => by
      by_cases h : x < y
      · rw [if_pos (decide_eq_true h)]
        exact congrArg V.int (by omega)
      · rw [if_neg (by simp [h])]
        exact congrArg V.int (by omega)
    simp only [Option.map_some, Option.bind_some, pick]
    show (some (decide (max i j < k))).map (fun c => if c = true then V.int k else V.int (max i j)) = _
    rw [Option.map_some, pick]) fun ds => by
    rcases ds with _ | ⟨x, _ | ⟨y, _ | ⟨z, _ | ⟨w, r⟩⟩⟩⟩
    · exact .inl rfl
    · cases x <;> exact .inl rfl
    · cases x <;> cases y <;> exact .inl rfl
    · cases x <;> cases y <;> cases z <;> first | exact .inl rfl | exact .inr ⟨_, _, _, rfl, rfl⟩
    · cases x <;> cases y <;> cases z <;> exact .inl rfl) hg hm (by decide +kernel) ha (he := he) (hpl := hpl)
end
/-! ### range with a step -/
def rng3 (lo c : Int) (n : Nat) : List D := (List.range n).map fun (i : Nat) => D.int (lo + (i : Int) * c)
theorem iter_rng3 {K : PySem.W.Frag} {F1 : Hp} {lo c : Int} {n : Nat} : IterOk K F1 (Itc lo c n) (rng3 lo c n) := fun i F H _ hF => by
  have hlen : (rng3 lo c n).length = n := by simp [rng3]
  refine ⟨fun h => ?_, fun d hd => ?_⟩
  · rw [hlen] at h; exact h
  · have hi : i < n := by
      have := (List.getElem?_eq_some_iff.mp hd).1
      rw [hlen] at this
      exact this
    have e : d = .int (lo + (i : Int) * c) := by
      have : (rng3 lo c n)[i]? = some (.int (lo + (i : Int) * c)) := by simp [rng3, hi]
      rw [this] at hd
      exact (Option.some.inj hd).symm
    subst e
    refine ⟨hi, fun x H' y => ?_⟩
    obtain ⟨rfl, rfl⟩ := y
    exact ⟨Ex.refl _, F, Gr.refl _ _, hF, .int _⟩
def fRng3 : List D → OI
  | [.int i, .int j, .int c] => if c ≠ 0 ∧ c.natAbs < 1073741824 ∧ Builtin.Range.small i j c = true ∧ Builtin.Range.rangeSize i j c = ((Builtin.Range.rangeSize i j c).toNat : Int) then .items (rng3 i c (Builtin.Range.rangeSize i j c).toNat) else .stuck
  | _ => .stuck
section
variable {X : Cx} {W : WX} {tg a b c : Expr} {p pos : Pos} {r1 r2 r3 : Fr} {ma : MA}
theorem si_range3 (hg : Gl X "range") (hm : X.mg "range" = none) (ha : SA X W [r1, r2, r3] [a, b, c] ma) (hs : starEach [a, b, c] X.env = (false, eval a X.env) :: starEach [b, c] X.env := by rfl) (hpl : (backTo pos (starEach [b, c] X.env)).any (·.1) = false := by rfl) : SI X W true tg (.Call (.Name "range" p) [a, b, c] [] pos) (mIter fRng3 ma) :=
  PI.weak (pi_range3 hg hm ha hs hpl) fun σ H R ⟨F, ev, hF, hz, hp⟩ => seqI hF hz hp fun ds vs H' F' as hm e g f hr o q => by
    cases hr with
    | cons h t =>
      cases t with
      | cons h2 t2 =>
        cases t2 with
        | cons h3 t3 =>
          cases t3 with
          | nil =>
            rename_i d1 _ _ d2 _ _ d3 _
            cases d1 <;> first | exact q.elim | skip
            cases d2 <;> first | exact q.elim | skip
            cases d3 <;> first | exact q.elim | skip
            rename_i i j k
            rw [rf_int h, rf_int h2, rf_int h3]
            by_cases hc : k ≠ 0 ∧ k.natAbs < 1073741824 ∧ Builtin.Range.small i j k = true ∧ Builtin.Range.rangeSize i j k = ((Builtin.Range.rangeSize i j k).toNat : Int)
            · simp only [fRng3, if_pos hc] at q
              exact ⟨i, j, k, _, rfl, ⟨hc.1, hc.2.1, hc.2.2.1, hc.2.2.2⟩, q _ _ _ e g f fun as _ => iter_rng3⟩
            · simp only [fRng3, if_neg hc] at q
              exact q.elim
end
/-! ### zip of two lists -/
def zipD : List D → List D → List D := List.zipWith fun x y => .tup [x, y]
def fZip : List D → OI
  | [x, y] => (match fItL x, fItL y with
    | .items a, .items b => .items (zipD a b)
    | _, _ => .stuck)
  | _ => .stuck
theorem iter_zip {K : PySem.W.Frag} {F1 : Hp} {a b : Addr} {vs ws : List V} {ds es : List D} (h : SqL K F1 a vs) (r : RepL K F1 vs ds) (h2 : SqL K F1 b ws) (r2 : RepL K F1 ws es) : IterOk K F1 (Itz K a b) (zipD ds es) := fun i F H e hF => by
  have hA : SqL K H a vs := Evl.ex_l (e.trans hF) h
  have hB : SqL K H b ws := Evl.ex_l (e.trans hF) h2
  refine ⟨fun hl => ⟨vs, ws, hA, hB, ?_⟩, fun d hd => ?_⟩
  · rw [r.len, r2.len]
    simp only [zipD, List.length_zipWith] at hl
    omega
  · have hd2 := hd
    simp only [zipD, List.getElem?_zipWith] at hd2
    cases hx : ds[i]? with
    | none => rw [hx] at hd2; cases hd2
    | some x =>
      rw [hx] at hd2
      cases hy : es[i]? with
      | none => rw [hy] at hd2; cases hd2
      | some y =>
        rw [hy] at hd2
        cases hd2
        obtain ⟨v, g1, g2⟩ := r.get hx
        obtain ⟨w, k1, k2⟩ := r2.get hy
        refine ⟨⟨vs, ws, v, w, hA, hB, g1, k1⟩, fun q H' z => ?_⟩
        obtain ⟨T, x0, y0, rfl, hT, rfl, z1, z2⟩ := z
        have e1 := z1 vs hA
        have e2 := z2 ws hB
        rw [g1] at e1
        rw [k1] at e2
        cases e1
        cases e2
        have fT : F T = none := ex_none hF hT
        refine ⟨Evl.Ex.new hT, upd F T (.tup [v, w]), ⟨Evl.Ex.new fT, fun a h1 h2 => ?_⟩, fun c o hc => ?_, .tup (.inl (.inl upd_same)) (.cons (g2.mono (e.trans (Evl.Ex.new fT))) (.cons (k2.mono (e.trans (Evl.Ex.new fT))) .nil))⟩
        · by_cases ha : a = T
          · rw [ha]; exact hT
          · rw [upd_ne ha] at h2
            exact absurd h1 h2
        · by_cases ha : c = T
          · subst ha
            rw [upd_same] at hc ⊢
            exact hc
          · rw [upd_ne ha] at hc ⊢
            exact hF _ _ hc
section
variable {X : Cx} {W : WX} {a b : Expr} {p pos tpos : Pos} {elts : List Expr} {kk : Nat} {r1 r2 : Fr} {ma : MA}
theorem si_zip (hg : Gl X "zip") (hm : X.mg "zip" = none) (ha : SA X W [r1, r2] [a, b] ma) (hs : starEach [a, b] X.env = (false, eval a X.env) :: starEach [b] X.env := by rfl) (hpl : (backTo pos (starEach [b] X.env)).any (·.1) = false := by rfl) : SI X W false (.Tuple elts kk tpos) (.Call (.Name "zip" p) [a, b] [] pos) (mIter fZip ma) :=
  PI.weak (RZ.pi_zipA hg hm ha hs hpl) fun σ H R ⟨F, ev, hF, hz, hp⟩ => seqI hF hz hp fun ds vs H' F' as hm e g f hr o q => by
    have fz : RepL X.K (plus F' H' as) vs ds := hr.frozen (plus_ex fun a ha => (o.fr a ha).2) fun a ha u hu => by unfold plus; rw [if_pos ha]; exact hu
    have G1 : Gr H F' (plus F' H' as) := plus_gr ⟨o.one, o.fr⟩
    have hsub : Ex (plus F' H' as) H' := plus_sub f
    cases fz with
    | nil => exact q.elim
    | cons k1 t =>
      cases t with
      | nil => exact q.elim
      | cons k2 t =>
        cases t with
        | cons k3 t => exact q.elim
        | nil =>
          rename_i d1 _ d2
          have q : PostIO X W σ R F H false (match fItL d1, fItL d2 with
            | .items a, .items b => .items (zipD a b)
            | _, _ => .stuck) := q
          cases h1 : fItL d1 with
          | stuck => rw [h1] at q; exact q.elim
          | err x => rw [h1] at q; exact q.elim
          | items l1 =>
            cases h2 : fItL d2 with
            | stuck => rw [h1, h2] at q; exact q.elim
            | err x => rw [h1, h2] at q; exact q.elim
            | items l2 =>
              rw [h1, h2] at q
              obtain ⟨a1, v1, rfl, s1, t1⟩ := k1.itL h1
              obtain ⟨a2, v2, rfl, s2, t2⟩ := k2.itL h2
              refine ⟨a1, a2, v1, v2, rfl, .inl ⟨Evl.ex_l hsub s1, Evl.ex_l hsub s2, ?_⟩⟩
              refine q (Itz X.K a1 a2) H' (plus F' H' as) e (g.trans G1 (Ex.refl _)) hsub fun bs hq => ?_
              rcases hq with rfl | ⟨hq, _⟩
              · rw [less_nil]
                exact iter_zip s1 t1 s2 t2
              · cases hq
end
/-! ### list(range(..)) -/
def RgB (i j : Int) : Prop := -(2 ^ 62) ≤ i ∧ i < 2 ^ 62 ∧ -(2 ^ 62) ≤ j ∧ j < 2 ^ 62 ∧ (j - i).toNat ≤ 2 ^ 24
def fListR2 : D → D → OE := fI fun i j => if -(2 ^ 62) ≤ i ∧ i < 2 ^ 62 ∧ -(2 ^ 62) ≤ j ∧ j < 2 ^ 62 ∧ (j - i).toNat ≤ 2 ^ 24 then .val (.lst (rng i (j - i).toNat)) else .stuck
def fListR1 : D → OE := fListR2 (.int 0)
theorem rfs_rng {K : PySem.W.Frag} {F H : Hp} (i j : Int) : RFs K F H (List.replicate (rgV i j).length .n) (rgV i j) (rng i (j - i).toNat) [] := by
  unfold rgV rng
  induction List.range (j - i).toNat with
  | nil => exact .nil
  | cons x l ih => exact .cons (as := []) (.n (.int _) rfl) ih
theorem post_rng {X : Cx} {W : WX} {σ : L2.St} {Q : VK} {F H : Hp} {i j : Int} (hF : Ex F H) (hp : Post X W σ Q F H (.l .n) (fListR2 (.int i) (.int j))) : RgOk i j ∧ ∀ q, H q = none → Q (.ref q) (upd H q (.lst (rgV i j))) := by
  unfold fListR2 fI at hp
  dsimp only at hp
  split at hp
  · rename_i hc
    refine ⟨hc, fun q hq => ?_⟩
    exact hp (.ref q) _ F [q] (Evl.Ex.new hq) (Gr.refl _ _) (hF.trans (Evl.Ex.new hq)) (.l upd_same (rfs_rng i j)) ⟨fun a => by rw [List.count_singleton]; split <;> omega, fun a ha => by
      have e : a = q := by simpa using ha
      rw [e]
      exact ⟨hq, ex_none hF hq⟩⟩
  · exact hp.elim
section
variable {X : Cx} {W : WX} {a b : Expr} {p p2 pos pos2 : Pos} {ra rb : Fr} {ma mb : ME}
theorem e_listRg1 (hc : X.calm = true) (hg : Gl X "list") (hm : X.mg "list" = none) (hg2 : Gl X "range") (hm2 : X.mg "range" = none) (ha : SE X W ra a ma) (na : starEach [a] X.env = (false, eval a X.env) :: starEach [] X.env := by rfl)
    (nc : starEach [.Call (.Name "range" p2) [a] [] pos2] X.env = (false, eval (.Call (.Name "range" p2) [a] [] pos2) X.env) :: starEach [] X.env := by rfl) : SE X W (.l .n) (.Call (.Name "list" p) [.Call (.Name "range" p2) [a] [] pos2] [] pos) (m1 fListR1 ma) :=
  PE.weak (pe_listRg hc hg hm (prg_1 hg2 hm2 ha.toZ na) nc) fun σ H Q ⟨F, ev, hF, hz, hp⟩ => seqE hF hz hp fun d v H1 F1 _ e1 g1 f1 r1 z1 p1 => by
    cases r1 <;> first | exact p1.elim | skip
    exact ⟨_, rfl, post_rng f1 p1⟩
theorem e_listRg2 (hc : X.calm = true) (hg : Gl X "list") (hm : X.mg "list" = none) (hg2 : Gl X "range") (hm2 : X.mg "range" = none) (ha : SE X W ra a ma) (hb : SE X W rb b mb) (na : starEach [a, b] X.env = (false, eval a X.env) :: starEach [b] X.env := by rfl) (nb : starEach [b] X.env = (false, eval b X.env) :: starEach [] X.env := by rfl) (hp : (backTo pos2 (starEach [b] X.env)).any (·.1) = false := by rfl)
    (nc : starEach [.Call (.Name "range" p2) [a, b] [] pos2] X.env = (false, eval (.Call (.Name "range" p2) [a, b] [] pos2) X.env) :: starEach [] X.env := by rfl) : SE X W (.l .n) (.Call (.Name "list" p) [.Call (.Name "range" p2) [a, b] [] pos2] [] pos) (m2 fListR2 ma mb) :=
  PE.weak (pe_listRg hc hg hm (prg_2 hg2 hm2 ha.toZ hb.toZ na nb hp) nc) fun σ H Q ⟨F, ev, hF, hz, hp⟩ => seqE hF hz hp fun d v H1 F1 _ e1 g1 f1 r1 z1 p1 => seqE f1 z1 p1 fun d2 v2 H2 F2 _ e2 g2 f2 r2 z2 p2 => by
    have r1 := r1.mono g2.ex
    cases r1 <;> first | exact p2.elim | skip
    cases r2 <;> first | exact p2.elim | skip
    exact ⟨_, _, rfl, rfl, post_rng f2 p2⟩
end
/-! ### xs.count(True) -/
def fCntB : D → OE
  | .lst ds => (match blsD ds with
    | some bs => .val (.int (bs.countP id))
    | none => .stuck)
  | _ => .stuck
/-! ### xs.count(True) -/
theorem vals_bls : ∀ {bs : List Bool} {its : List Value}, Vals (bs.map V.bl) its → its = bs.map Value.bool
  | [], _, .nil => rfl
  | b :: bs, _, .cons r t => by
    cases r
    rw [vals_bls t]
    rfl
theorem reads_bls {h : Heap} : ∀ bs : List Bool, ReadsAll h (bs.map Value.bool) (bs.map PyData.bool) []
  | [] => .nil
  | b :: bs => .cons (as := []) (.bool b) (reads_bls bs)
theorem mt_cntB {X : Cx} : MtR X "list.count" (fun x xs H Q => ∃ (a : Addr) (bs : List Bool) (k : Bool), x = .ref a ∧ xs = [.bl k] ∧ SqL X.K H a (bs.map V.bl) ∧ Q (.int ((bs.countP fun b => b == k : Nat) : Int)) H) := by
  intro pins s σ H x xs v us Q I rx rv h
  obtain ⟨a, bs, k, rfl, rfl, hs, q⟩ := h
  cases rx
  cases rv with
  | cons r t =>
    cases t
    cases r
    obtain ⟨its, rvs, p1, _⟩ := I.list hs
    have e := vals_bls rvs
    subst e
    have ra := reads_bls (h := s.heap) bs
    have hall : (bs.map PyData.bool).all PySem.Spec.Shape.bool.has = true := by
      rw [List.all_map, List.all_eq_true]
      intro b _
      rfl
    refine PyProof.Rows.count_list_bools p1.isList ra hall ?_
    have e2 : PySem.Spec.countIn (.bool k) (bs.map PyData.bool) = ((bs.countP fun b => b == k : Nat) : Int) := by
      rw [← PyProof.Rows.countP_isBoolOf k ra hall, List.countP_map]
      rfl
    rw [e2]
    exact ⟨.int _, H, I.tok _, ⟨_, rfl⟩, q⟩
section
variable {X : Cx} {W : WX} {o : Expr} {apos cpos kp : Pos} {j : Nat} {ra : Fr} {mo : ME}
theorem e_cntB (ho : SE X W ra o mo) (hbase : attributeBase o "count" X.env (eval o X.env) = eval o X.env := by rfl)
    (hfew : ((backTo cpos (starEach (.Constant (.bool true) j kp :: []) X.env)).all (fun x => !x.1) && (backToKw cpos (keywordEach [] X.env)).all (fun x => x.1.isSome)
      && decide ((Expr.Constant (.bool true) j kp :: []).length + ([] : List Keyword).length + (if ([] : List Keyword).isEmpty then 0 else 1) < 30)) = true := by rfl)
    (hline : (apos.endLine == cpos.line) = true := by rfl) (hst : starEach (.Constant (.bool true) j kp :: []) X.env = (false, eval (.Constant (.bool true) j kp) X.env) :: starEach [] X.env := by rfl) (hplain : (backTo cpos (starEach [] X.env)).any (·.1) = false := by rfl) :
    SE X W .n (.Call (.Attribute o "count" apos) [.Constant (.bool true) j kp] [] cpos) (m1 fCntB mo) :=
  PE.weak (pe_bm PySem.F.plainAttrs_list PySem.F.slot_list_count PySem.F.type_list_count mt_cntB ho.toZ (pa_cons pe_bl pa_nil hst) hbase hfew hline hst hplain) fun σ H Q ⟨F, ev, hF, hz, hp⟩ => seqE hF hz hp fun d v H1 F1 _ e1 g1 f1 r1 z1 p1 => by
    cases r1 <;> first | exact p1.elim | skip
    rename_i a vs ds h r hmo
    have p1 : Post X W σ Q F1 H1 .n (match blsD ds with
      | some bs => .val (.int (bs.countP id))
      | none => .stuck) := p1
    cases hb : blsD ds with
    | none => rw [hb] at p1; exact p1.elim
    | some bs =>
      rw [hb] at p1
      have ev := r.bls hb
      subst ev
      refine ⟨.inl ⟨rfl, _, sq_of f1 h⟩, ?_⟩
      refine ⟨a, bs, true, rfl, rfl, sq_of f1 h, ?_⟩
      have e3 : (bs.countP fun b => b == true) = bs.countP id := by
        congr 1
        funext b
        cases b <;> rfl
      rw [e3]
      exact post_int f1 p1
end
/-- nothing is promised -/
theorem fn_stuck {P : Program} {w : World} {K : PySem.W.Frag} {mg : Str → Option Value} {base : Heap} {f : Addr} {fd : FuncData} {ps : List Str} {k : Nat} {R : Fr} : FnOk P w K mg base (L2.CX P w) k f fd ps (spD K mg R fun _ => .stuck) :=
  ⟨fun vs H Q E ⟨F, ds, _, _, h⟩ => h.elim, fun A outer s H args us vs Q E _ _ _ _ ⟨F, ds, _, _, h⟩ => h.elim⟩
end U
namespace U
section
open PySem PySem.Spec PyProof.Rows L2
open Evl (Ex)
/-! ### list(range(a, b, c)) -/
def PRg3 (X : Cx) (e : Expr) (t : L2.St → Hp → (Int → Int → Int → Hp → Prop) → Prop) : Prop :=
  ∀ (pins : List (Addr × Obj)) (s : Shared) (σ : L2.St) (H : Hp) (Q : Int → Int → Int → Hp → Prop), Inv X pins σ H s → t σ H Q →
    wpAny (model X.prog X.w) X.A (eval e X.env) (fun x s' => ∃ r a b c t u v H', x = .ref r ∧ IsRange s'.heap r a b c t u v ∧ Inv X pins σ H' s' ∧ Q a b c H') X.xe s
theorem prg_3 {X : Cx} {a b c : Expr} {ta : TA} {p pos : Pos} (hg : Gl X "range") (hm : X.mg "range" = none) (ha : PA X [a, b, c] ta)
    (hs : starEach [a, b, c] X.env = (false, eval a X.env) :: starEach [b, c] X.env := by rfl) (hpl : (backTo pos (starEach [b, c] X.env)).any (·.1) = false := by rfl) :
    PRg3 X (.Call (.Name "range" p) [a, b, c] [] pos) (fun σ H Q => ta σ H fun vs H1 => ∃ i j k : Int, vs = [.int i, .int j, .int k] ∧ k ≠ 0 ∧ k.natAbs < 1073741824 ∧ Q i j k H1) := by
  intro pins s σ H Q I h
  refine Call_ (ld_blt I hg hm boot_range (PyProof.Rows.callWith_type1 (thn (ha.run pos pins s σ H _ I h) fun us s1 ⟨vs, H1, I1, r1, q1⟩ => ?_) hs hpl))
  obtain ⟨i, j, k, e, c0, c1, q⟩ := q1
  subst e
  cases r1 with
  | cons r rr =>
    cases rr with
    | cons r' rr =>
      cases rr with
      | cons r'' rr =>
        cases rr
        obtain ⟨t, rfl⟩ := r
        obtain ⟨t', rfl⟩ := r'
        obtain ⟨t'', rfl⟩ := r''
        exact call_range_3 c0 ⟨_, i, j, k, _, _, _, H1, rfl, IsRange.new _ _ _ _ _ _ _, I1.kept fun b u e => Heap.get?_push_of_some _ e, q⟩ (.inl (PyProof.noPylong_small c1))
def rgV3 (i c : Int) (n : Nat) : List V := (List.range n).map fun k => V.int (i + (k : Nat) * c)
theorem vals_rg3 {i c : Int} {n : Nat} {acc : Array Value} (h : ItemsOf (fun k v => ∃ t, v = .int (i + k * c) t) acc n) : Vals (rgV3 i c n) acc.toList := by
  have e : acc.toList.length = n := by rw [Array.length_toList]; exact h.1
  unfold rgV3
  rw [← e]
  refine vals_of_get acc.toList _ fun j u hj => ?_
  obtain ⟨t, rfl⟩ := h.2 j u (by rw [← hj, Array.getElem?_toList])
  exact ⟨t, rfl⟩
theorem pe_listRg3 {X : Cx} {e : Expr} {te : L2.St → Hp → (Int → Int → Int → Hp → Prop) → Prop} {p pos : Pos} (hc : X.calm = true) (hg : Gl X "list") (hm : X.mg "list" = none) (he : PRg3 X e te) (na : starEach [e] X.env = (false, eval e X.env) :: starEach [] X.env := by rfl) : PE X (.Call (.Name "list" p) [e] [] pos) (fun σ H Q => te σ H fun i j c H1 => ∃ n : Nat, Builtin.Range.small i j c = true ∧ Builtin.Range.rangeSize i j c = n ∧ n ≤ 2 ^ 24 ∧ ∀ q, H1 q = none → Q (.ref q) (upd H1 q (.lst (rgV3 i c n)))) := by
  refine ⟨fun pins s σ H Q I h => ?_⟩
  refine Call_ (ld_blt I hg hm boot_list (PyProof.Rows.callWith_type1 (args_cons (thn (he pins s σ H _ I h) fun x s1 ⟨r, a, b, c, t, u, v, H1, ex, hr, I1, n, b1, b2, b3, q⟩ => args_nil ?_) na) na))
  subst ex
  refine call_list_range (n := n) (I1.ok.hd hc) hr b1 b2 b3 fun h' tk acc c' hk e' hi => ?_
  refine ⟨.ref s1.heap.objs.size, upd H1 s1.heap.objs.size (.lst (rgV3 a c n)), I1.laid hk (Nat.le_refl _) (show ObjOk X.prog X.w _ _ _ (.lst (rgV3 a c n)) from ⟨?_, acc.toList, c', vals_rg3 hi, ?_⟩), rfl, q _ (I1.hok.fresh (Nat.le_refl _))⟩
  · unfold rgV3
    rw [List.length_map, List.length_range, sizeLine_eq]
    omega
  · rw [Array.toArray_toList]; exact e'
end
section
open PySem L2
open Evl (Ex)
def fListR3 : List D → OE
  | [.int i, .int j, .int c] => if c ≠ 0 ∧ c.natAbs < 1073741824 ∧ Builtin.Range.small i j c = true ∧ Builtin.Range.rangeSize i j c = ((Builtin.Range.rangeSize i j c).toNat : Int) ∧ (Builtin.Range.rangeSize i j c).toNat ≤ 2 ^ 24 then .val (.lst (rng3 i c (Builtin.Range.rangeSize i j c).toNat)) else .stuck
  | _ => .stuck
theorem rfs_rng3 {K : PySem.W.Frag} {F H : Hp} (i c : Int) (n : Nat) : RFs K F H (List.replicate (rgV3 i c n).length .n) (rgV3 i c n) (rng3 i c n) [] := by
  unfold rgV3 rng3
  induction List.range n with
  | nil => exact .nil
  | cons x l ih => exact .cons (as := []) (.n (.int _) rfl) ih
variable {X : Cx} {W : WX} {a b c : Expr} {p p2 pos pos2 : Pos} {r1 r2 r3 : Fr} {ma : MA}
theorem e_listRg3 (hc : X.calm = true) (hg : Gl X "list") (hm : X.mg "list" = none) (hg2 : Gl X "range") (hm2 : X.mg "range" = none) (ha : SA X W [r1, r2, r3] [a, b, c] ma) (hs : starEach [a, b, c] X.env = (false, eval a X.env) :: starEach [b, c] X.env := by rfl) (hpl : (backTo pos2 (starEach [b, c] X.env)).any (·.1) = false := by rfl)
    (nc : starEach [.Call (.Name "range" p2) [a, b, c] [] pos2] X.env = (false, eval (.Call (.Name "range" p2) [a, b, c] [] pos2) X.env) :: starEach [] X.env := by rfl) : SE X W (.l .n) (.Call (.Name "list" p) [.Call (.Name "range" p2) [a, b, c] [] pos2] [] pos) (mCall fListR3 ma) :=
  PE.weak (pe_listRg3 hc hg hm (prg_3 hg2 hm2 ha hs hpl) nc) fun σ H Q ⟨F, ev, hF, hz, hp⟩ => seqA hF hz hp fun ds vs H' F' e g f' hr hz' p' => by
    cases hr with
    | nil => exact p'.elim
    | cons h1 t =>
      cases t with
      | nil => cases h1 <;> exact p'.elim
      | cons h2 t =>
        cases t with
        | nil => cases h1 <;> cases h2 <;> exact p'.elim
        | cons h3 t =>
          cases t with
          | cons h4 t => cases h1 <;> cases h2 <;> cases h3 <;> exact p'.elim
          | nil =>
            cases h1 <;> first | exact p'.elim | skip
            cases h2 <;> first | exact p'.elim | skip
            cases h3 <;> first | exact p'.elim | skip
            rename_i i j k
            have p' : Post X W σ Q F' H' (.l .n) (if k ≠ 0 ∧ k.natAbs < 1073741824 ∧ Builtin.Range.small i j k = true ∧ Builtin.Range.rangeSize i j k = ((Builtin.Range.rangeSize i j k).toNat : Int) ∧ (Builtin.Range.rangeSize i j k).toNat ≤ 2 ^ 24 then .val (.lst (rng3 i k (Builtin.Range.rangeSize i j k).toNat)) else .stuck) := p'
            split at p'
            · rename_i hcc
              refine ⟨i, j, k, rfl, hcc.1, hcc.2.1, _, hcc.2.2.1, hcc.2.2.2.1, hcc.2.2.2.2, fun q hq => ?_⟩
              exact p' (.ref q) _ F' [q] (Evl.Ex.new hq) (Gr.refl _ _) (f'.trans (Evl.Ex.new hq)) (.l upd_same (rfs_rng3 i k _)) ⟨fun a => by rw [List.count_singleton]; split <;> omega, fun a ha => by
                have e : a = q := by simpa using ha
                rw [e]
                exact ⟨hq, ex_none f' hq⟩⟩
            · exact p'.elim
end
end U

/-! U: try, except, isinstance of what was caught -/
namespace U
open PySem L2
open Evl (Ex)
/-! ### what any address gives alike -/
open Classical in
noncomputable def allA (g : Addr → OS) : OS := if (∀ a, g a = g 0) then g 0 else .stuck
theorem allA_of {g : Addr → OS} {o : OS} (h : ∀ a, g a = o) : allA g = o := by
  unfold allA
  rw [if_pos (fun a => (h a).trans (h 0).symm)]
  exact h 0
def dropO (i : Nat) : OS → OS
  | .next e => .next (e.set i none)
  | .brk e => .brk (e.set i none)
  | .cont e => .cont (e.set i none)
  | .ret d => .ret d
  | .err _ _ => .stuck
  | .stuck => .stuck
def noEr : OS → OS
  | .err _ _ => .stuck
  | o => o
def wNo : WX := fun _ _ _ _ => False
section
variable {K : PySem.W.Frag} {F H : Hp}
theorem EnvR.drop {σ : L2.St} {env : Env} {as : List Addr} (h : EnvR K F H σ env as) : ∀ i, ∃ cs, EnvR K F H (σ.set i none) (env.set i none) cs ∧ ∀ a, cs.count a ≤ as.count a := by
  induction h with
  | nil => exact fun i => ⟨[], .nil, fun _ => Nat.le_refl _⟩
  | skip t ih =>
    intro i
    cases i with
    | zero => exact ⟨_, .skip t, fun _ => Nat.le_refl _⟩
    | succ i =>
      obtain ⟨cs, h1, h2⟩ := ih i
      exact ⟨cs, .skip h1, h2⟩
  | slot q t ih =>
    intro i
    cases i with
    | zero => exact ⟨_, .skip t, fun a => by rw [List.count_append]; omega⟩
    | succ i =>
      obtain ⟨cs, h1, h2⟩ := ih i
      exact ⟨_, .slot q h1, fun a => by
        have := h2 a
        rw [List.count_append, List.count_append]
        omega⟩
end
section
variable {X : Cx} {W : WX} {B F0 : Hp} {R : Fr}
theorem Sta.drop {K : PySem.W.Frag} {B F0 H : Hp} {σ : L2.St} {env : Env} (S : Sta K B F0 H σ env) (i : Nat) : Sta K B F0 H (σ.set i none) (env.set i none) := by
  obtain ⟨F, as, R, S⟩ := S
  obtain ⟨cs, h1, h2⟩ := R.drop i
  exact ⟨F, cs, h1, S.own.sub h2, S.bh, S.gr, S.fh⟩
theorem allA_at {D : Ends} {g : Addr → OS} (h : EndS X W B F0 R D (allA g)) (a : Addr) : EndS X W B F0 R D (g a) := by
  unfold allA at h
  split at h
  · rename_i q
    rw [q a]
    exact h
  · exact h.elim
theorem allA_dr {D : Ends} {g : Addr → OS} {i : Nat} (h : EndS X W B F0 R D (dropO i (allA g))) (a : Addr) : EndS X W B F0 R D (dropO i (g a)) := by
  unfold allA at h
  split at h
  · rename_i q
    rw [q a]
    exact h
  · exact h.elim
theorem drop_end {D : Ends} {i : Nat} {o : OS} (h : EndS X W B F0 R D (dropO i o)) : EndS X wNo B F0 R { nx := fun σ' H' => D.nx (σ'.set i none) H', rt := D.rt, bk := fun σ' H' => D.bk (σ'.set i none) H', ct := fun σ' H' => D.ct (σ'.set i none) H' } o := by
  cases o with
  | stuck => exact h
  | next e => exact fun σ H S => h _ H (S.drop i)
  | brk e => exact fun σ H S => h _ H (S.drop i)
  | cont e => exact fun σ H S => h _ H (S.drop i)
  | ret d => exact h
  | err c e => exact h.elim
theorem noEr_end {D : Ends} {o : OS} (h : EndS X W B F0 R D (noEr o)) : EndS X wNo B F0 R D o := by
  cases o with
  | err c e => exact h.elim
  | _ => exact h
/-! ### try: .. except C as x: .. -/
noncomputable def mTry (sub : Str → Option Bool) (i : Nat) (mb : MS) (hm : Addr → Str → MS) : MS := fun env => match mb env with
  | .err c e => (match sub c with
    | some true => if i < e.length then dropO i (allA fun a => hm a c (e.set i (some (.z, .adr a)))) else .stuck
    | some false => .err c e
    | none => .stuck)
  | o => o
def mTryN (sub : Str → Option Bool) (mb : MS) (hm : Str → MS) : MS := fun env => match mb env with
  | .err c e => (match sub c with
    | some true => noEr (hm c e)
    | some false => .err c e
    | none => .stuck)
  | o => o
/-- what a table says of classes' names -/
def subT (t : List (Str × Bool)) (c : Str) : Option Bool := (t.find? fun p => p.1 == c).map Prod.snd
def SubOk (K : PySem.W.Frag) (mg : Str → Option Value) (sub : Str → Option Bool) (x : Str) : Prop := ∃ Ch, mg x = some (.ref Ch) ∧ ∀ c C b, sub c = some b → mg c = some (.ref C) → PySem.W.exmOne K (.ref C) (.ref Ch) = some b
theorem takes_no {X : Cx} {a : Addr} {pn : List (Addr × Obj)} : Takes (X.suite a pn) wNo := fun u s' ⟨_, _, _, _, _, _, _, _, _, _, _, _, _, _, _, _, w⟩ => w.elim
theorem s_tryAs {x n : Str} (i : Nat) {body suite : List Stmt} {b₀ : Stmt} {np pos pos' : Pos} {sub : Str → Option Bool} {mb : MS} {hm : Addr → Str → MS}
    (hs : X.stack = X.env :: X.outer) (hf : X.env.frame = some X.env.locals) (hN : X.N.Nodup) (hi : X.N[i]? = some n) (hln : X.env.kindOf n = some .local) (hx : Gl X x) (hd : (x == ("__debug__" : Str)) = false) (ho : SubOk X.K X.mg sub x) (tk : Takes X W)
    (hb : ∀ (W' : WX) (pn : List (Addr × Obj)) (xe : Value → Shared → Prop), Takes (X.tr pn xe) W' → PassesOwn (model X.prog X.w) X.A X.env xe → SSs (X.tr pn xe) W' B R body mb)
    (hsu : ∀ (a : Addr) (c : Str) (C : Addr) (oe : Obj) (pn : List (Addr × Obj)), sub c = some true → X.mg c = some (.ref C) → Zc (.ref C) none oe → (∃ vs, oe.data = .fields vs) → SSs (X.suite a ((a, oe) :: pn)) wNo B R (b₀ :: suite) (hm a c)) :
    SS X W B R (.Try body [.ExceptHandler (some (.Name x np)) (some n) (b₀ :: suite) pos'] [] [] pos) (mTry sub i mb hm) := by
  obtain ⟨Ch, hmx, hsub⟩ := ho
  refine PS.weak (ps_try_as (c := .ref Ch) (tb := fun W' => tS X W' B R mb) (ts := fun a cls d D σ H => ∃ c C, cls = .ref C ∧ d = none ∧ sub c = some true ∧ X.mg c = some (.ref C) ∧ tS X wNo B R (hm a c) D σ H)
    hs hf hN hi hln ⟨hx, hd, .inl hmx⟩ tk (fun W' pn xe t p => hb W' pn xe t p) (fun a oe cls d pn hz hfl => ⟨fun pins s σ H D I h => ?_⟩)) fun D σ H ⟨F0, env, S, h⟩ => ⟨F0, env, S, ?_⟩
  · obtain ⟨c, C, rfl, rfl, hsb, hc, h⟩ := h
    exact (hsu a c C oe pn hsb hc hz hfl).run pins s σ H D I h
  · unfold mTry at h
    cases hq : mb env with
    | err c e =>
      rw [hq] at h
      dsimp only at h
      intro σ H S C hC
      show ∃ b, _ ∧ _ ∧ _
      cases hb2 : sub c with
      | none => rw [hb2] at h; exact h.elim
      | some b =>
        rw [hb2] at h
        refine ⟨b, hsub c C b hb2 hC, fun hbt a na => ?_, fun hbf => ?_⟩
        · subst hbt
          dsimp only at h
          split at h
          · rename_i hl
            have h1 := drop_end (allA_dr h a)
            obtain ⟨F, as, R1, S1⟩ := S
            obtain ⟨cs, h2, h3⟩ := R1.set (.z (.adr a)) hl
            exact ⟨c, C, rfl, rfl, hb2, hC, F0, _, ⟨F, cs, h2, S1.own.sub (fun b => by have := h3 b; simpa using this), S1.bh, S1.gr, S1.fh⟩, h1⟩
          · exact h.elim
        · subst hbf
          exact h σ H S C hC
    | _ => rw [hq] at h; exact h
theorem s_tryN {x : Str} {body suite : List Stmt} {b₀ : Stmt} {np pos pos' : Pos} {sub : Str → Option Bool} {mb : MS} {hm : Str → MS}
    (hs : X.stack = X.env :: X.outer) (hf : X.env.frame = some X.env.locals) (hx : Gl X x) (hd : (x == ("__debug__" : Str)) = false) (ho : SubOk X.K X.mg sub x) (tk : Takes X W)
    (hb : ∀ (W' : WX) (pn : List (Addr × Obj)) (xe : Value → Shared → Prop), Takes (X.tr pn xe) W' → PassesOwn (model X.prog X.w) X.A X.env xe → SSs (X.tr pn xe) W' B R body mb)
    (hsu : ∀ (a : Addr) (c : Str) (C : Addr) (oe : Obj) (pn : List (Addr × Obj)), sub c = some true → X.mg c = some (.ref C) → Zc (.ref C) none oe → (∃ vs, oe.data = .fields vs) → SSs (X.suite a ((a, oe) :: pn)) wNo B R (b₀ :: suite) (hm c)) :
    SS X W B R (.Try body [.ExceptHandler (some (.Name x np)) none (b₀ :: suite) pos'] [] [] pos) (mTryN sub mb hm) := by
  obtain ⟨Ch, hmx, hsub⟩ := ho
  refine PS.weak (ps_try_only (c := .ref Ch) (tb := fun W' => tS X W' B R mb) (ts := fun a cls d D σ H => ∃ c C, cls = .ref C ∧ d = none ∧ sub c = some true ∧ X.mg c = some (.ref C) ∧ tS X wNo B R (hm c) D σ H)
    hs hf ⟨hx, hd, .inl hmx⟩ tk (fun W' pn xe t p => hb W' pn xe t p) (fun a oe cls d pn hz hfl => ⟨fun pins s σ H D I h => ?_⟩)) fun D σ H ⟨F0, env, S, h⟩ => ⟨F0, env, S, ?_⟩
  · obtain ⟨c, C, rfl, rfl, hsb, hc, h⟩ := h
    exact (hsu a c C oe pn hsb hc hz hfl).run pins s σ H D I h
  · unfold mTryN at h
    cases hq : mb env with
    | err c e =>
      rw [hq] at h
      dsimp only at h
      intro σ H S C hC
      show ∃ b, _ ∧ _ ∧ _
      cases hb2 : sub c with
      | none => rw [hb2] at h; exact h.elim
      | some b =>
        rw [hb2] at h
        refine ⟨b, hsub c C b hb2 hC, fun hbt a na => ?_, fun hbf => ?_⟩
        · subst hbt
          exact ⟨c, C, rfl, rfl, hb2, hC, F0, _, S, noEr_end h⟩
        · subst hbf
          exact h σ H S C hC
    | _ => rw [hq] at h; exact h
end
/-! ### isinstance(e, C), e what was caught -/
/-- what the name of a class says -/
def ClsE (X : Cx) (e : Expr) (v : V) (u : Value) : Prop := PE X e (tC v) ∧ ClsV v u
theorem cls_own {X : Cx} {x : Str} {C : Addr} {p : Pos} (hg : Gl X x) (hm : X.mg x = some (.ref C)) (hd : (x == ("__debug__" : Str)) = false := by decide) : ClsE X (.Name x p) (.ref C) (.ref C) := ⟨pe_glob hg hm rfl hd, .own C⟩
theorem cls_ty {X : Cx} {x : Str} {n : String} {p : Pos} (hg : Gl X x) (hm : X.mg x = none) (hv : bootBuiltins x = some (.type n)) (hn : x ≠ "__name__" := by decide) (hd : (x == ("__debug__" : Str)) = false := by decide) : ClsE X (.Name x p) (.ty n) (.type n) := ⟨pe_bltn hg hm hv rfl hn hd, .ty n⟩
/-- some answer b, where it is known; e is the address a -/
def mIsE (b : Option Bool) (a : Addr) (me : ME) : ME := fun ev => match me ev with
  | .val (.adr a') => if a' = a then (match b with
    | some b => .val (.bl b)
    | none => .stuck) else .stuck
  | .val _ => .stuck
  | .stuck => .stuck
  | .err x => .err x
/-- several classes -/
def rIsEs (K : PySem.W.Frag) (D a : Addr) : List V → Hp → VK → Prop := fun xs H Q => ∃ (tp : Addr) (cs : List V) (us : List Value) (b : Bool), xs = [.ref a, .ref tp] ∧ H tp = some (.tup cs) ∧ Paired ClsV cs us ∧ PySem.W.kitAny K (.ref D) us = some b ∧ Q (.bl b) H
theorem call_isEs {X : Cx} {a D : Addr} {oe : Obj} {pn : List (Addr × Obj)} (C : ExcC X.K D) (hz : Zc (.ref D) none oe) (hf : ∃ vs, oe.data = .fields vs) : CallR (X.suite a ((a, oe) :: pn)) (.builtin "isinstance") (rIsEs X.K D a) := by
  intro pins s σ H xs us Q I r h
  obtain ⟨tp, cs, ws, b, rfl, hT, k, e, q⟩ := h
  obtain ⟨u1, u2, rfl, r1, r2⟩ := vals2 r
  cases (show u2 = Value.ref tp from r2)
  cases (show u1 = Value.ref a from r1)
  have hget := (I.pin (a, oe) (List.mem_append.mpr (.inl (.head _)))).1
  obtain ⟨vs, hv⟩ := hf
  have J : PySem.W.InstAt s.heap a oe D none := by
    cases oe with
    | mk o1 o2 o3 o4 =>
      have h1 : o1 = .ref D := hz.1
      have h2 : o2 = none := hz.2
      have h3 : o3 = .fields vs := hv
      subst h1 h2 h3
      exact ⟨hget, rfl, rfl, trivial⟩
  obtain ⟨_, its, rv, o, g1, g2, n, g3⟩ := (show ObjOk (X.suite a ((a, oe) :: pn)).prog (X.suite a ((a, oe) :: pn)).w H s.heap tp (.tup cs) from I.hok tp _ hT)
  have e3 := ClsV.all k rv
  subst e3
  cases o with
  | mk o1 o2 o3 o4 =>
    have k2 : o1 = .type "tuple" := g2
    have k3 : o3 = _ := g3
    subst k2 k3
    exact PySem.W.kia_tup (PySem.W.handS_kitx_exc C.hg C.hk C.hs C.hd C.ha C.hn C.ht C.hm) I.kIn J g1 e (by intro z; cases z) fun tk => ⟨.bl b, H, I.tok tk, rfl, q⟩
section
variable {X : Cx} {W : WX} {a : Addr} {oe : Obj} {pn : List (Addr × Obj)} {D : Addr} {e c : Expr} {ra : Fr} {me : ME} {p pos : Pos} {v : V} {u : Value} {o : Option Bool}
theorem isE_in {σ : L2.St} {H : Hp} {Q : VK} {R : V → Hp → Prop} (h : tE X W .n (mIsE o a me) σ H Q) (k : ∀ b H', o = some b → Q (.bl b) H' → R (.ref a) H') : tE X W .z me σ H R := by
  obtain ⟨F, ev, hF, hz, hp⟩ := h
  refine ⟨F, ev, hF, hz, ?_⟩
  unfold mIsE at hp
  cases hm : me ev with
  | stuck => rw [hm] at hp; exact hp
  | err x => rw [hm] at hp; exact hp
  | val d =>
    rw [hm] at hp
    cases d with
    | adr a' =>
      dsimp only at hp
      split at hp
      · rename_i hq
        subst hq
        cases o with
        | none => exact hp.elim
        | some b =>
          intro v H' F' as e1 g1 f1 rf ow
          cases rf with
          | z hr =>
            cases hr
            exact k b H' rfl (post_bl f1 (Post.up hp g1 e1))
      · exact hp.elim
    | _ => exact hp.elim
theorem e_isE (C : ExcC X.K D) (hz : Zc (.ref D) none oe) (hf : ∃ vs, oe.data = .fields vs) (hg : Gl X "isinstance") (hm : X.mg "isinstance" = none) (ha : SE (X.suite a ((a, oe) :: pn)) W ra e me) (hc : ClsE (X.suite a ((a, oe) :: pn)) c v u) (ho : ∀ b, o = some b → PySem.W.kitOne X.K (.ref D) u = some b)
    (he : starEach (e :: [c]) X.env = (false, eval e X.env) :: starEach [c] X.env := by rfl) (he2 : starEach [c] X.env = (false, eval c X.env) :: starEach [] X.env := by rfl) (hpl : (backTo pos (starEach [c] X.env)).any (·.1) = false := by rfl) :
    SE (X.suite a ((a, oe) :: pn)) W .n (.Call (.Name "isinstance" p) [e, c] [] pos) (mIsE o a me) :=
  PE.weak (pe_callB (call_isE C hz hf) hg hm (by decide +kernel) (pa_cons ha.toZ (pa_cons hc.1 pa_nil he2) he) (he := he) (hpl := hpl)) fun σ H Q h =>
    isE_in h fun b H' hb q => ⟨v, u, b, rfl, fun w r => hc.2.eq r, ho b hb, q⟩
/-- the names of several classes -/
inductive ClsEs (X : Cx) : List Expr → List V → List Value → Prop
  | nil : ClsEs X [] [] []
  | cons {c : Expr} {cs : List Expr} {v : V} {vs : List V} {u : Value} {us : List Value} (h : ClsE X c v u) (t : ClsEs X cs vs us) (he : starEach (c :: cs) X.env = (false, eval c X.env) :: starEach cs X.env) : ClsEs X (c :: cs) (v :: vs) (u :: us)
theorem ClsEs.pa {X : Cx} {cs : List Expr} {vs : List V} {us : List Value} (h : ClsEs X cs vs us) : PA X cs (fun _ H Q => Q vs H) := by
  induction h with
  | nil => exact pa_nil
  | cons h t he ih => exact pa_cons h.1 ih he
theorem ClsEs.pr {X : Cx} {cs : List Expr} {vs : List V} {us : List Value} (h : ClsEs X cs vs us) : Paired ClsV vs us := by
  induction h with
  | nil => exact .nil
  | cons h t he ih => exact .cons h.2 ih
theorem e_isEs {cs : List Expr} {vs : List V} {us : List Value} {x1} {p2 : Pos} (C : ExcC X.K D) (hz : Zc (.ref D) none oe) (hf : ∃ vs, oe.data = .fields vs) (hg : Gl X "isinstance") (hm : X.mg "isinstance" = none) (ha : SE (X.suite a ((a, oe) :: pn)) W ra e me) (hc : ClsEs (X.suite a ((a, oe) :: pn)) cs vs us) (hl : vs.length ≤ 1000) (ho : ∀ b, o = some b → PySem.W.kitAny X.K (.ref D) us = some b)
    (he : starEach (e :: [.Tuple cs x1 p2]) X.env = (false, eval e X.env) :: starEach [.Tuple cs x1 p2] X.env := by rfl) (he2 : starEach [.Tuple cs x1 p2] X.env = (false, eval (.Tuple cs x1 p2) X.env) :: starEach [] X.env := by rfl) (hpl : (backTo pos (starEach [.Tuple cs x1 p2] X.env)).any (·.1) = false := by rfl) :
    SE (X.suite a ((a, oe) :: pn)) W .n (.Call (.Name "isinstance" p) [e, .Tuple cs x1 p2] [] pos) (mIsE o a me) :=
  PE.weak (pe_callB (call_isEs C hz hf) hg hm (by decide +kernel) (pa_cons ha.toZ (pa_cons (pe_tup hc.pa) pa_nil he2) he) (he := he) (hpl := hpl)) fun σ H Q h => by
    obtain ⟨F, ev, hF, hz, hp⟩ := h
    refine ⟨F, ev, hF, hz, ?_⟩
    unfold mIsE at hp
    cases hm : me ev with
    | stuck => rw [hm] at hp; exact hp
    | err x => rw [hm] at hp; exact hp
    | val d =>
      rw [hm] at hp
      cases d with
      | adr a' =>
        dsimp only at hp
        split at hp
        · rename_i hq
          subst hq
          cases o with
          | none => exact hp.elim
          | some b =>
            intro v H' F' as e1 g1 f1 rf ow
            cases rf with
            | z hr =>
              cases hr
              refine ⟨Nat.le_trans hl (by decide), fun tp htp => ?_⟩
              exact ⟨tp, vs, us, b, rfl, upd_same, hc.pr, ho b rfl, hp (.bl b) (upd H' tp (.tup vs)) F' [] (e1.trans (Evl.Ex.new htp)) (g1) (f1.trans (Evl.Ex.new htp)) (.n (.bl b) rfl) .nil⟩
        · exact hp.elim
      | _ => exact hp.elim
end
theorem huU_of {k : Nat} {A : Around} (r : Room k A) : A.units + 64 < cLine := by
  have := r.un
  omega
/-! ### == in a suite -/
section
variable {X : Cx} {W : WX} {a b : Expr} {pos : Pos} {ra rb : Fr} {ma mb : ME}
theorem e_eqU (hu : X.A.units + 64 < cLine) (ha : SE X W ra a ma) (hb : SE X W rb b mb) (hm : behindInMarks .Eq b = false := by with_unfolding_all rfl) : SE X W .n (.Compare a [.Eq] [b] pos) (m2 fEq ma mb) := e_cmp (op_eqP hu) opD_eq ha hb hm
theorem st_eqU (hu : X.A.units + 64 < cLine) (ha : SE X W ra a ma) (hb : SE X W rb b mb) (hm : behindInMarks .Eq b = false := by with_unfolding_all rfl) : ST X W (.Compare a [.Eq] [b] pos) (m2 fEq ma mb) := st_cmp (op_eqP hu) opD_eq ha hb hm
theorem e_neU (hu : X.A.units + 64 < cLine) (ha : SE X W ra a ma) (hb : SE X W rb b mb) (hm : behindInMarks .NotEq b = false := by with_unfolding_all rfl) : SE X W .n (.Compare a [.NotEq] [b] pos) (m2 fNe ma mb) := e_cmp (op_neP hu) opD_ne ha hb hm
theorem st_neU (hu : X.A.units + 64 < cLine) (ha : SE X W ra a ma) (hb : SE X W rb b mb) (hm : behindInMarks .NotEq b = false := by with_unfolding_all rfl) : ST X W (.Compare a [.NotEq] [b] pos) (m2 fNe ma mb) := st_cmp (op_neP hu) opD_ne ha hb hm
end
/-! ### what the head shows of the classes -/
theorem subT_mem {t : List (Str × Bool)} {c : Str} {b : Bool} (h : subT t c = some b) : (c, b) ∈ t := by
  unfold subT at h
  cases hf : t.find? (fun p => p.1 == c) with
  | none => rw [hf] at h; cases h
  | some p =>
    rw [hf] at h
    have h1 : p.2 = b := Option.some.inj h
    have h2 : p.1 = c := eq_of_beq (List.find?_some (p := fun q : Str × Bool => q.1 == c) hf)
    have h3 := List.mem_of_find?_eq_some hf
    rw [← h1, ← h2]
    exact h3
def xSub (x : Str) (t : List (Str × Bool)) (K : PySem.W.Frag) : Bool := (He.Fa.glo x).ok K && t.all fun p => (He.Fa.glo p.1).ok K && (He.Fa.exm p.1 x p.2).ok K
def xIs (x : Str) (t : List (Str × Bool)) (K : PySem.W.Frag) : Bool := (He.Fa.glo x).ok K && t.all fun p => (He.Fa.glo p.1).ok K && decide (PySem.W.kitOne K (.ref (He.ga K p.1)) (.ref (He.ga K x)) = some p.2)
def xIsT (n : String) (t : List (Str × Bool)) (K : PySem.W.Frag) : Bool := t.all fun p => (He.Fa.glo p.1).ok K && decide (PySem.W.kitOne K (.ref (He.ga K p.1)) (.type n) = some p.2)
def exB (K : PySem.W.Frag) (D : Addr) : Bool := He.eqO (PySem.W.findIn K (.ref D) "__getattribute__") (some (some (.builtin "BaseException.__getattribute__"))) && (He.eqO (PySem.W.findIn K (.ref D) "__getattr__") (some none) &&
  (decide (PySem.W.subIn K (.ref D) (.type "BaseException") = some true) && (PySem.W.hasDictIn K D && (He.eqO (PySem.W.findIn K (.ref D) "__class__") (some (some (.builtin "object.__class__"))) &&
  (He.eqO (PySem.W.specialIn K (.builtin "object.__class__") "__get__") (some (some (.builtin "getset_descriptor.__get__"))) && (decide (PySem.W.takesIn K (.builtin "object.__class__") = some true) && decide (PySem.W.mroIn K D (.type "object") = some true)))))))
theorem exB_ok {K : PySem.W.Frag} {D : Addr} (h : exB K D = true) : ExcC K D := by
  unfold exB at h
  obtain ⟨h1, h⟩ := He.ba h
  obtain ⟨h2, h⟩ := He.ba h
  obtain ⟨h3, h⟩ := He.ba h
  obtain ⟨h4, h⟩ := He.ba h
  obtain ⟨h5, h⟩ := He.ba h
  obtain ⟨h6, h⟩ := He.ba h
  obtain ⟨h7, h8⟩ := He.ba h
  exact ⟨He.eqO_ok h1, He.eqO_ok h2, of_decide_eq_true h3, h4, He.eqO_ok h5, He.eqO_ok h6, of_decide_eq_true h7, of_decide_eq_true h8⟩
def xEx (l : List Str) (K : PySem.W.Frag) : Bool := l.all fun x => (He.Fa.glo x).ok K && exB K (He.ga K x)
def IsOk (K : PySem.W.Frag) (mg : Str → Option Value) (t : List (Str × Bool)) (u : Value) : Prop := ∀ c C b, subT t c = some b → mg c = some (.ref C) → PySem.W.kitOne K (.ref C) u = some b
def ExOk (K : PySem.W.Frag) (mg : Str → Option Value) (l : List Str) : Prop := ∀ c C, c ∈ l → mg c = some (.ref C) → ExcC K C
section
variable {K : PySem.W.Frag} {h : Heap} {mg : Str → Option Value} {x : Str} {t : List (Str × Bool)}
theorem ga_eq (X : K.In h) (G : h.Ns mainGlobals mg) {c : Str} {C : Addr} (h1 : (He.Fa.glo c).ok K = true) (h2 : mg c = some (.ref C)) : C = He.ga K c := by
  have e := (He.glo_ok X G h1).symm.trans h2
  cases e
  rfl
theorem subOk_of (X : K.In h) (G : h.Ns mainGlobals mg) (c : xSub x t K = true) : SubOk K mg (subT t) x := by
  obtain ⟨c1, c2⟩ := He.ba c
  refine ⟨_, He.glo_ok X G c1, fun q C b hb hC => ?_⟩
  obtain ⟨c3, c4⟩ := He.ba (List.all_eq_true.mp c2 _ (subT_mem hb))
  rw [ga_eq X G c3 hC]
  exact He.exm_ok c4
theorem isOk_of (X : K.In h) (G : h.Ns mainGlobals mg) (c : xIs x t K = true) : IsOk K mg t (.ref (He.ga K x)) := by
  obtain ⟨c1, c2⟩ := He.ba c
  intro q C b hb hC
  obtain ⟨c3, c4⟩ := He.ba (List.all_eq_true.mp c2 _ (subT_mem hb))
  rw [ga_eq X G c3 hC]
  exact of_decide_eq_true c4
theorem isOkT_of {n : String} (X : K.In h) (G : h.Ns mainGlobals mg) (c : xIsT n t K = true) : IsOk K mg t (.type n) := by
  intro q C b hb hC
  obtain ⟨c3, c4⟩ := He.ba (List.all_eq_true.mp c _ (subT_mem hb))
  rw [ga_eq X G c3 hC]
  exact of_decide_eq_true c4
theorem exOk_of {l : List Str} (X : K.In h) (G : h.Ns mainGlobals mg) (c : xEx l K = true) : ExOk K mg l := by
  intro q C hq hC
  obtain ⟨c3, c4⟩ := He.ba (List.all_eq_true.mp c _ hq)
  rw [ga_eq X G c3 hC]
  exact exB_ok c4
theorem ExOk.at {l : List Str} (E : ExOk K mg l) {c : Str} {C : Addr} {b : Bool} (hs : subT t c = some b) (hC : mg c = some (.ref C)) (ht : t.map Prod.fst = l) : ExcC K C := E c C (by
  rw [← ht]
  exact List.mem_map_of_mem (subT_mem hs)) hC
end
/-- of several answers -/
def anyO : List (Option Bool) → Option Bool
  | [] => some false
  | none :: _ => none
  | some true :: _ => some true
  | some false :: r => anyO r
inductive AnsAll (K : PySem.W.Frag) (v : Value) : List (Option Bool) → List Value → Prop
  | nil : AnsAll K v [] []
  | cons {o : Option Bool} {os : List (Option Bool)} {u : Value} {us : List Value} (h : ∀ b, o = some b → PySem.W.kitOne K v u = some b) (r : AnsAll K v os us) : AnsAll K v (o :: os) (u :: us)
theorem AnsAll.any {K : PySem.W.Frag} {v : Value} {os : List (Option Bool)} {us : List Value} (h : AnsAll K v os us) : ∀ b, anyO os = some b → PySem.W.kitAny K v us = some b := by
  induction h with
  | nil => exact fun b e => e
  | @cons o os u us h r ih =>
    intro b e
    cases o with
    | none => cases e
    | some o =>
      cases o with
      | true => exact kitAny_cons (h true rfl) (by intro z; cases z) (fun _ => (Option.some.inj e).symm)
      | false => exact kitAny_cons (h false rfl) (fun _ => ih b e) (by intro z; cases z)
/-- the head's facts, and further ones -/
def obsU (fb : List (PySem.W.Frag → Bool)) (fa : List He.Fa) (fn : List He.FnD) (K : PySem.W.Frag) : Bool × He.Al := (fb.all fun f => f K, He.obsE fa fn K)
def SaysU (fb : List (PySem.W.Frag → Bool)) (fa : List He.Fa) (fn : List He.FnD) (K : PySem.W.Frag) : Prop := obsU fb fa fn K = (true, He.valE fn)
def obsUG (n : Nat) (fb : List (PySem.W.Frag → Bool)) (fa : List He.Fa) (fn : List He.FnD) (g : Addr → Option Obj) : Bool × He.Al := obsU fb fa fn (He.frG g (He.asG g n))
def hookU (n : Nat) (fb : List (PySem.W.Frag → Bool)) (fa : List He.Fa) (fn : List He.FnD) : PySem.W.Hook where
  α := Bool × He.Al
  obs := fun st => obsUG n fb fa fn st.heap.get?
  val := fun _ => (true, He.valE fn)
  says := fun _ hp => ∃ K : PySem.W.Frag, K.In hp ∧ SaysU fb fa fn K
  of := fun _ _ eq => Exists.intro _ (And.intro He.frG_in eq)
  keeps := fun _ _ _ ex kp => ex.elim fun K q => Exists.intro K (And.intro (PySem.W.Frag.In.keeps q.1 kp) q.2)
theorem obsUG_eq {n : Nat} {fb : List (PySem.W.Frag → Bool)} {fa : List He.Fa} {fn : List He.FnD} {g : Addr → Option Obj} {st : Shared} (hh : ∀ a, g a = st.heap.get? a) : obsUG n fb fa fn g = (hookU n fb fa fn).obs st := by
  rw [funext hh]
  rfl
theorem SaysU.e {fb : List (PySem.W.Frag → Bool)} {fa : List He.Fa} {fn : List He.FnD} {K : PySem.W.Frag} (c : SaysU fb fa fn K) : He.SaysE fa fn K := congrArg (fun z : Bool × He.Al => z.2) c
theorem SaysU.b {fb : List (PySem.W.Frag → Bool)} {fa : List He.Fa} {fn : List He.FnD} {K : PySem.W.Frag} (c : SaysU fb fa fn K) (i : Nat) {f : PySem.W.Frag → Bool} (hi : fb[i]? = some f := by rfl) : f K = true :=
  List.all_eq_true.mp (show (fb.all fun f => f K) = true from congrArg (fun z : Bool × He.Al => z.1) c) f (List.mem_of_getElem? hi)
end U

/-! U: a list within what is the frame's own, lent to a name for the rest of a block -/
namespace U
open PySem L2
open Evl (Ex)
section
variable {K : PySem.W.Frag} {F H : Hp}
/-- a slot's value is taken out, another one stands there (of the same reference) -/
theorem EnvR.out {σ : L2.St} {env : Env} {as : List Addr} (h : EnvR K F H σ env as) : ∀ {i : Nat} {r : Fr} {d : D}, env[i]? = some (some (r, d)) →
    ∃ v bs cs, σ[i]? = some (some v) ∧ RF K F H r v d bs ∧ (∀ r' d', RF K F H r' v d' [] → EnvR K F H σ (env.set i (some (r', d'))) cs) ∧ EnvR K F H σ (env.set i none) cs ∧ ∀ a, cs.count a + bs.count a = as.count a := by
  induction h with
  | nil => intro i r d h; simp at h
  | @skip s σ e as t ih =>
    intro i r d h
    cases i with
    | zero => simp at h
    | succ i =>
      obtain ⟨v, bs, cs, e1, e2, e3, e4, e5⟩ := ih (i := i) (by simpa using h)
      exact ⟨v, bs, cs, by simpa using e1, e2, fun r' d' q => .skip (e3 r' d' q), .skip e4, e5⟩
  | @slot v σ r0 d0 e as1 as2 q t ih =>
    intro i r d h
    cases i with
    | zero =>
      simp at h
      obtain ⟨rfl, rfl⟩ := h
      exact ⟨v, as1, as2, rfl, q, fun r' d' q' => by
        have := EnvR.slot q' t
        simpa using this, .skip t, fun a => by rw [List.count_append]; omega⟩
    | succ i =>
      obtain ⟨u, bs, cs, e1, e2, e3, e4, e5⟩ := ih (i := i) (by simpa using h)
      exact ⟨u, bs, as1 ++ cs, by simpa using e1, e2, fun r' d' q' => .slot q (e3 r' d' q'), .slot q e4, fun a => by
        have := e5 a
        rw [List.count_append, List.count_append]
        omega⟩
theorem St.set_same {σ : L2.St} {i : Nat} {v : V} (h : σ[i]? = some (some v)) : σ.set i (some v) = σ := by
  refine List.ext_getElem? fun j => ?_
  by_cases e : i = j
  · subst e
    rw [List.getElem?_set_self (List.getElem?_eq_some_iff.mp h).1, h]
  · rw [List.getElem?_set_ne e]
theorem DigV.mono' {K : PySem.W.Frag} {G G' : Hp} (h : ∀ x u, G x = some u → G' x = some u) : ∀ {js : List Int} {x z : V}, DigV K G x js z → DigV K G' x js z
  | _, _, _, .nil x => .nil x
  | _, _, _, .lst c i q => .lst (h _ _ c) i (DigV.mono' h q)
  | _, _, _, .tup c i q => .tup (Evl.ex_t (fun x u hu => h x u hu) c) i (DigV.mono' h q)
/-- B with the cells of bs that are not of as -/
def outB (B H : Hp) (bs as : List Addr) : Hp := fun x => if x ∈ bs ∧ x ∉ as then H x else B x
end
/-- what is handed on by name is read again: b the tree's address, a the list's -/
def fillO (i k : Nat) (js : List Int) (r0 r : Fr) (d0 : D) (b a : Addr) : OS → OS
  | .next e => go e .next
  | .brk e => go e .brk
  | .cont e => go e .cont
  | .ret d => .ret d
  | _ => .stuck
where go (e : Env) (f : Env → OS) : OS := match e[i]?, e[k]? with
  | some (some (.z, .adr b')), some (some (.la a' r', .lst ds')) => if b' = b ∧ a' = a ∧ frEq r' r = true then f ((e.set k none).set i (some (r0, bury d0 js (.lst ds')))) else .stuck
  | _, _ => .stuck
open Classical in
noncomputable def allB (g : Addr → Addr → OS) : OS := if (∀ b a, g b a = g 0 0) then g 0 0 else .stuck
theorem allB_of {g : Addr → Addr → OS} {o : OS} (h : ∀ b a, g b a = o) : allB g = o := by
  unfold allB
  rw [if_pos (fun b a => (h b a).trans (h 0 0).symm)]
  exact h 0 0
noncomputable def mBor (i k : Nat) (mj : MA) (rest : MS) : MS := fun env => match mj (dOf env) with
  | .vals jd => (match intsD jd with
    | some js => (match env[i]? with
      | some (some (r0, d0)) => (match dig d0 js, digF 0 r0 js with
        | some (.lst ds), some (.l r) => if k < env.length ∧ i ≠ k then allB fun b a => fillO i k js r0 r d0 b a (rest ((env.set i (some (.z, .adr b))).set k (some (.la a r, .lst ds)))) else .stuck
        | _, _ => .stuck)
      | _ => .stuck)
    | none => .stuck)
  | _ => .stuck
section
variable {X : Cx} {W : WX} {B F0 : Hp} {R : Fr}
theorem allB_at {D : Ends} {g : Addr → Addr → OS} (h : EndS X W B F0 R D (allB g)) (b a : Addr) : EndS X W B F0 R D (g b a) := by
  unfold allB at h
  split at h
  · rename_i q
    rw [q b a]
    exact h
  · exact h.elim
theorem RF.ref_l {K : PySem.W.Frag} {F H : Hp} {js : List Int} {r0 r : Fr} {v : V} {d : D} {as : List Addr} (h : RF K F H r0 v d as) (hr : digF 0 r0 js = some (.l r)) : ∃ b, v = .ref b := by
  cases h with
  | z h => cases js <;> simp [digF] at hr
  | n h q => cases js <;> simp [digF] at hr
  | k h q => exact ⟨_, rfl⟩
  | l h q => exact ⟨_, rfl⟩
  | t h q => exact ⟨_, rfl⟩
  | la h q => exact ⟨_, rfl⟩
  | kT h _ q => exact ⟨_, rfl⟩
  | ob h _ _ q => exact ⟨_, rfl⟩
  | rc h _ q => exact ⟨_, rfl⟩
  | qn => cases js <;> simp [digF] at hr
  | qs h _ _ q => exact ⟨_, rfl⟩
def BorC (K : PySem.W.Frag) (B F0 H : Hp) (σ : L2.St) (env : Env) (i k : Nat) (js : List Int) (r0 r : Fr) (d0 : D) (ds : List D) (P : Addr → Addr → Prop) : Prop :=
    ∃ b a B' F1, σ[i]? = some (some (.ref b)) ∧ P b a ∧
      Sta K B' F1 H (σ.set k (some (.ref a))) ((env.set i (some (.z, .adr b))).set k (some (.la a r, .lst ds))) ∧ Ex B B' ∧ Gr B F0 F1 ∧ (∀ x, B' x = none → B x = none) ∧
      ∀ H2 σ2 e ds', Sta K B' F1 H2 σ2 e → e[i]? = some (some (.z, .adr b)) → e[k]? = some (some (.la a r, .lst ds')) → Sta K B F0 H2 σ2 ((e.set k none).set i (some (r0, bury d0 js (.lst ds'))))
/-- the region: what is taken out is laid aside (in B), what was lent comes back -/
theorem bor_core {K : PySem.W.Frag} {H : Hp} {σ : L2.St} {env : Env} {i k : Nat} {js : List Int} {r0 r : Fr} {d0 : D} {ds : List D} (P : Addr → Addr → Prop) (S : Sta K B F0 H σ env) (he : env[i]? = some (some (r0, d0))) (hr : digF 0 r0 js = some (.l r)) (hk : k < env.length) (hik : i ≠ k)
    (dg : ∀ F b bs, Ex F H → RF K F H r0 (.ref b) d0 bs → (∀ q, bs.count q ≤ 1) → ∃ v as1, (∀ a, v = .ref a → P b a) ∧ Hole K F H r0 (.ref b) bs (.l r) v (.lst ds) as1 (fun y => bury d0 js y)) :
    BorC K B F0 H σ env i k js r0 r d0 ds P := by
  obtain ⟨F, as, R0, S0⟩ := S
  obtain ⟨x0, bs, cs, e1, e2, e3, _, e5⟩ := R0.out he
  obtain ⟨b, rfl⟩ := e2.ref_l hr
  have bs1 : ∀ q, bs.count q ≤ 1 := fun q => by
    have := e5 q
    have := S0.own.one q
    omega
  have bsm : ∀ q ∈ bs, q ∈ as := fun q hq => by
    have h1 : 0 < bs.count q := List.count_pos_iff.mpr hq
    have := e5 q
    exact List.count_pos_iff.mp (by omega)
  have csm : ∀ q ∈ cs, q ∈ as := fun q hq => by
    have h1 : 0 < cs.count q := List.count_pos_iff.mpr hq
    have := e5 q
    exact List.count_pos_iff.mp (by omega)
  obtain ⟨v, as1, g1, g2⟩ := dg F b bs S0.fh e2 bs1
  have sub := g2.sub
  cases sub with
  | @l _ a vs _ ws c t =>
    have ex : Ex B (outB B H bs (a :: ws)) := fun x u hu => by
      unfold outB
      rw [if_neg]
      · exact hu
      · rintro ⟨h1, _⟩
        rw [(S0.own.fr x (bsm x h1)).1] at hu
        cases hu
    have nn : ∀ x, outB B H bs (a :: ws) x = none → B x = none := fun x hx => by
      unfold outB at hx
      split at hx
      · rename_i hm
        exact (S0.own.fr x (bsm x hm.1)).1
      · exact hx
    have R1 := e3 .z (.adr b) (.z (.adr b))
    obtain ⟨cs1, c1, c2⟩ := R1.set (RF.la (a := a) c t) (i := k) (by rw [List.length_set]; exact hk)
    have disj : ∀ x, cs1.count x ≤ cs.count x + (a :: ws).count x := c2
    have S1 : Stt K (outB B H bs (a :: ws)) F F H cs1 := by
      refine ⟨⟨fun x => ?_, fun x hx => ?_⟩, ?_, Gr.refl _ _, S0.fh⟩
      · have h1 := disj x
        have h2 := e5 x
        have h3 := g2.le x
        have h4 := S0.own.one x
        omega
      · have h1 : 0 < cs1.count x := List.count_pos_iff.mpr hx
        have h2 := disj x
        have h3 := g2.le x
        have h4 := e5 x
        have h5 := S0.own.one x
        have hm : x ∈ as := List.count_pos_iff.mp (by omega)
        refine ⟨?_, (S0.own.fr x hm).2⟩
        unfold outB
        rw [if_neg]
        · exact (S0.own.fr x hm).1
        · rintro ⟨q1, q2⟩
          have q3 : 0 < bs.count x := List.count_pos_iff.mpr q1
          have q4 : (a :: ws).count x = 0 := List.count_eq_zero.mpr q2
          omega
      · intro x u hu
        unfold outB at hu
        split at hu
        · exact hu
        · exact S0.bh x u hu
    refine ⟨b, a, outB B H bs (a :: ws), F, e1, g1 a rfl, ⟨F, cs1, c1, S1⟩, ex, S0.gr, nn, ?_⟩
    · rintro H2 σ2 e ds' ⟨F2, as2, R2, S2⟩ hei hek
      obtain ⟨x2, bs2, cs2, f1, f2, f3, f4, f5⟩ := R2.out hek
      have hei' : (e.set k none)[i]? = some (some (.z, .adr b)) := by rw [List.getElem?_set_ne (Ne.symm hik)]; exact hei
      obtain ⟨x3, bs3, cs3, p1, p2, p3, p4, p5⟩ := f4.out hei'
      have hx3 : x3 = .ref b := by
        cases p2 with
        | z h => cases h; rfl
      subst hx3
      have fr2 : ∀ x, x ∈ bs → x ∉ (a :: ws) → H2 x = H x ∧ F2 x = none ∧ as2.count x = 0 := fun x h1 h2 => by
        obtain ⟨o, ho, _⟩ := e2.cell x h1
        have hb : outB B H bs (a :: ws) x = some o := by unfold outB; rw [if_pos ⟨h1, h2⟩]; exact ho
        refine ⟨by rw [S2.bh x o hb, ho], ?_, ?_⟩
        · cases hq : F2 x with
          | none => rfl
          | some u =>
            have := S2.gr.new x (S0.own.fr x (bsm x h1)).2 (by rw [hq]; simp)
            rw [hb] at this
            cases this
        · refine List.count_eq_zero.mpr fun hm => ?_
          have := (S2.own.fr x hm).1
          rw [hb] at this
          cases this
      cases f2 with
      | @la _ _ vs2 _ ws2 c2' t2 =>
        obtain ⟨cs4, k1, k2⟩ := g2.put F2 H2 (.lst ds') (a :: ws2) S2.gr.ex (fun x hx hn o ho => by rw [(fr2 x hx hn).1]; exact ho) (.l c2' t2)
        obtain ⟨cs5, m1, m2⟩ := f4.set k1 (i := i) (by
          have := (List.getElem?_eq_some_iff.mp hei').1
          exact this)
        rw [St.set_same p1] at m1
        refine ⟨F2, cs5, m1, ⟨fun x => ?_, fun x hx => ?_⟩, ex.trans S2.bh, S0.gr.trans S2.gr ex, S2.fh⟩
        · have h1 := m2 x
          have h2 := k2 x
          have h3 := f5 x
          have h4 := S2.own.one x
          by_cases hm : x ∈ bs ∧ x ∉ (a :: ws)
          · have h5 := (fr2 x hm.1 hm.2).2.2
            have h6 := bs1 x
            omega
          · have h7 : bs.count x ≤ (a :: ws).count x := by
              by_cases hb : x ∈ bs
              · have hw : x ∈ (a :: ws) := Classical.byContradiction fun z => hm ⟨hb, z⟩
                have : 0 < (a :: ws).count x := List.count_pos_iff.mpr hw
                have := bs1 x
                omega
              · rw [List.count_eq_zero.mpr hb]
                exact Nat.zero_le _
            omega
        · have h0 : 0 < cs5.count x := List.count_pos_iff.mpr hx
          have h1 := m2 x
          have h2 := k2 x
          have h3 := f5 x
          by_cases hm : x ∈ bs ∧ x ∉ (a :: ws)
          · exact ⟨(S0.own.fr x (bsm x hm.1)).1, (fr2 x hm.1 hm.2).2.1⟩
          · have h7 : bs.count x ≤ (a :: ws).count x := by
              by_cases hb : x ∈ bs
              · have hw : x ∈ (a :: ws) := Classical.byContradiction fun z => hm ⟨hb, z⟩
                have : 0 < (a :: ws).count x := List.count_pos_iff.mpr hw
                have := bs1 x
                omega
              · rw [List.count_eq_zero.mpr hb]
                exact Nat.zero_le _
            have hx2 : x ∈ as2 := List.count_pos_iff.mp (by omega)
            exact ⟨nn x (S2.own.fr x hx2).1, (S2.own.fr x hx2).2⟩
theorem bor_run {K : PySem.W.Frag} {H : Hp} {σ : L2.St} {env : Env} {i k : Nat} {js : List Int} {r0 r : Fr} {d0 : D} {ds : List D} (S : Sta K B F0 H σ env) (he : env[i]? = some (some (r0, d0))) (hd : dig d0 js = some (.lst ds)) (hr : digF 0 r0 js = some (.l r)) (hk : k < env.length) (hik : i ≠ k) : BorC K B F0 H σ env i k js r0 r d0 ds (fun b a => ∀ G : Hp, (∀ x u, H x = some u → G x = some u) → DigV K G (.ref b) js (.ref a)) :=
  bor_core (B := B) (F0 := F0) (ds := ds) (r := r) (fun b a => ∀ G : Hp, (∀ x u, H x = some u → G x = some u) → DigV K G (.ref b) js (.ref a)) S he hr hk hik fun F b bs hF e2 bs1 => by
    obtain ⟨v, as1, g1, g2⟩ := RF.dig (G := H) hF e2 bs1 (fun _ _ _ h => h) hd hr
    exact ⟨v, as1, fun a ha G hG => DigV.mono' hG (by rw [← ha]; exact g1), g2⟩
/-- one item of a list -/
theorem bor_item {K : PySem.W.Frag} {H : Hp} {σ : L2.St} {env : Env} {i k j : Nat} {b0 : Addr} {r : Fr} {Ds ds : List D} (S : Sta K B F0 H σ env) (he : env[i]? = some (some (.la b0 (.l r), .lst Ds))) (hd : Ds[j]? = some (.lst ds)) (hk : k < env.length) (hik : i ≠ k) : BorC K B F0 H σ env i k [(j : Int)] (.la b0 (.l r)) r (.lst Ds) ds (fun b a => ∀ vs, H b = some (.lst vs) → vs[j]? = some (.ref a)) :=
  bor_core (B := B) (F0 := F0) (ds := ds) (r := r) (js := [(j : Int)]) (fun b a => ∀ vs, H b = some (.lst vs) → vs[j]? = some (.ref a)) S he rfl hk hik fun F b bs hF e2 bs1 => by
    cases e2 with
    | @la _ _ vs _ as c t =>
      have hc1 : ∀ q, as.count q ≤ 1 := fun q => by
        have := bs1 q
        rw [List.count_cons] at this
        omega
      have na : b0 ∉ as := fun z => by
        have := bs1 b0
        rw [List.count_cons_self] at this
        have : 0 < as.count b0 := List.count_pos_iff.mpr z
        omega
      obtain ⟨r1, v1, bs', q1, q2, q3, q4, put⟩ := t.hole hc1 hd
      have er : r1 = .l r := List.eq_of_mem_replicate (List.mem_of_getElem? q1)
      subst er
      have hix : ixN Ds.length (j : Int) = some j := by
        have := (List.getElem?_eq_some_iff.mp hd).1
        unfold ixN
        rw [if_pos (by omega), if_pos (by omega), Int.toNat_natCast]
      have e3 : (fun y => bury (.lst Ds) [(j : Int)] y) = fun y => D.lst (Ds.set j y) := by
        funext y
        simp only [bury, atI, hix, Option.bind, hd, setI]
      refine ⟨v1, bs', fun a ha vs' hv => ?_, ?_⟩
      · rw [c] at hv
        cases hv
        rw [← ha]
        exact q2
      · rw [e3]
        exact ⟨q3, fun x => by rw [List.count_cons]; have := q4 x; omega, fun F' H' d' as' e pr rf => by
          obtain ⟨cs, c1, c2⟩ := put F' H' d' as' e (fun x hb hn o ho => pr x (by simp [hb]) hn o ho) rf
          refine ⟨b0 :: cs, .la (pr b0 (by simp) (fun z => na (mem_of_count (q4 b0) z)) _ c) c1, fun x => ?_⟩
          rw [List.count_cons, List.count_cons]
          have := c2 x
          omega⟩
theorem fill_end {B' F1 : Hp} {i k : Nat} {js : List Int} {r0 r : Fr} {d0 : D} {b a : Addr} (ex : Ex B B') (g : Gr B F0 F1) (nn : ∀ x, B' x = none → B x = none)
    (back : ∀ H2 σ2 e ds', Sta X.K B' F1 H2 σ2 e → e[i]? = some (some (.z, .adr b)) → e[k]? = some (some (.la a r, .lst ds')) → Sta X.K B F0 H2 σ2 ((e.set k none).set i (some (r0, bury d0 js (.lst ds')))))
    {o : OS} {E : Ends} (h : EndS X W B F0 R E (fillO i k js r0 r d0 b a o)) : EndS X W B' F1 R E o := by
  have go : ∀ (e : Env) (f : Env → OS) (P : L2.St → Hp → Prop), (∀ e', EndS X W B F0 R E (f e') → ∀ σ H, Sta X.K B F0 H σ e' → P σ H) → EndS X W B F0 R E (fillO.go i k js r0 r d0 b a e f) → ∀ σ H, Sta X.K B' F1 H σ e → P σ H := by
    intro e f P hf hh σ H S
    unfold fillO.go at hh
    split at hh
    · rename_i b' a' r' ds' h1 h2
      split at hh
      · rename_i hq
        obtain ⟨rfl, rfl, hr⟩ := hq
        cases frEq_eq hr
        exact hf _ hh σ H (back H σ e ds' S h1 h2)
      · exact hh.elim
    · exact hh.elim
  cases o with
  | stuck => exact h
  | next e => exact go e .next _ (fun e' q σ H S => q σ H S) h
  | brk e => exact go e .brk _ (fun e' q σ H S => q σ H S) h
  | cont e => exact go e .cont _ (fun e' q σ H S => q σ H S) h
  | ret d => exact fun v H ⟨F, as, h1, h2, h3, h4, h5⟩ => h v H ⟨F, as, h1, ⟨h2.one, fun x hx => ⟨nn x (h2.fr x hx).1, (h2.fr x hx).2⟩⟩, ex.trans h3, g.trans h4 ex, h5⟩
  | err c e => exact h.elim
theorem s_bor (k i : Nat) {x : Str} {o : Expr} {rest : List Stmt} {pos pos' : Pos} {mj : MA} {mrest : MS} (hN : X.N.Nodup) (hk : X.N[k]? = some x) (hx : Loc X.env.scope x) (ho : SP X W i o mj) (hb : ∀ B' : Hp, SSs X W B' R rest mrest)
    (hs : swapsWith o (some (.Name x pos')) pos.line X.env = pure false := by rfl) (hf : X.fn x = true ∨ X.env.scope.names.lookup x = some .local := by first | exact .inl rfl | exact .inr rfl | assumption) :
    SSs X W B R (.Assign [.Name x pos'] o pos :: rest) (mBor i k mj mrest) := by
  have hb' : PSs X rest (fun D σ H => ∃ B', tS X W B' R mrest D σ H) := ⟨fun pins s σ H D I ⟨B', h⟩ => (hb B').run pins s σ H D I h⟩
  refine PSs.weak (pss_cons (ps_set hN hk hx ho hs hf) hb') fun D σ H ⟨F0, env, S, h⟩ => ?_
  unfold mBor at h
  cases hj : mj (dOf env) with
  | stuck => rw [hj] at h; exact h.elim
  | err c => rw [hj] at h; exact h.elim
  | vals jd =>
    rw [hj] at h
    dsimp only at h
    cases hi : intsD jd with
    | none => rw [hi] at h; exact h.elim
    | some js =>
      rw [hi] at h
      dsimp only at h
      cases he : env[i]? with
      | none => rw [he] at h; exact h.elim
      | some p =>
        cases p with
        | none => rw [he] at h; exact h.elim
        | some p =>
          obtain ⟨r0, d0⟩ := p
          rw [he] at h
          dsimp only at h
          cases hd : dig d0 js with
          | none => rw [hd] at h; exact h.elim
          | some d1 =>
            rw [hd] at h
            cases d1 <;> first | exact h.elim | skip
            rename_i ds
            cases hr : digF 0 r0 js with
            | none => rw [hr] at h; exact h.elim
            | some r1 =>
              rw [hr] at h
              cases r1 <;> first | exact h.elim | skip
              rename_i r
              dsimp only at h
              split at h
              · rename_i hc
                have S' := S
                obtain ⟨F, as, R0, S0⟩ := S'
                obtain ⟨b, a, B', F1, e1, e2, S1, ex, g, nn, back⟩ := bor_run S he hd hr hc.1 hc.2
                refine ⟨H, dOf env, Ex.refl _, (R0.dz fun a ha => (S0.own.fr a ha).2).mono (plus_sub S0.fh), ?_⟩
                rw [hj]
                refine ⟨js, .ref b, .ref a, intsD_map hi, e1, e2 H (fun _ _ h => h), fun H' eH => ?_⟩
                exact ⟨B', F1, _, S1.up eH, fill_end ex g nn back (allB_at h b a)⟩
              · exact h.elim
/-! ### for .. in x: x a list of the frame's own, of items without lists; it stands aside meanwhile -/
theorem RFs.repN {K : PySem.W.Frag} {F H : Hp} : ∀ {n : Nat} {vs : List V} {ds : List D} {as : List Addr}, RFs K F H (List.replicate n .n) vs ds as → RepL K F vs ds
  | 0, _, _, _, h => by cases h; exact .nil
  | n + 1, _, _, _, h => by
    cases h with
    | cons h t =>
      cases h with
      | n h q => exact .cons h t.repN
theorem out_run {K : PySem.W.Frag} {H : Hp} {σ : L2.St} {env : Env} {i : Nat} {ds : List D} (S : Sta K B F0 H σ env) (he : env[i]? = some (some (.l .n, .lst ds))) :
    ∃ b B' F1 vs, σ[i]? = some (some (.ref b)) ∧ H b = some (.lst vs) ∧ B' b = some (.lst vs) ∧ RepL K F1 vs ds ∧ Sta K B' F1 H σ (env.set i (some (.z, .adr b))) ∧ Ex B B' ∧ Gr B F0 F1 ∧ (∀ x, B' x = none → B x = none) ∧
      ∀ H2 σ2 e, Sta K B' F1 H2 σ2 e → e[i]? = some (some (.z, .adr b)) → Sta K B F0 H2 σ2 (e.set i (some (.l .n, .lst ds))) := by
  obtain ⟨F, as, R0, S0⟩ := S
  obtain ⟨x0, bs, cs, e1, e2, e3, _, e5⟩ := R0.out he
  cases e2 with
  | @l _ b vs _ ws c t =>
    have bsm : ∀ q ∈ (b :: ws), q ∈ as := fun q hq => by
      have h1 : 0 < (b :: ws).count q := List.count_pos_iff.mpr hq
      have := e5 q
      exact List.count_pos_iff.mp (by omega)
    have ex : Ex B (outB B H (b :: ws) []) := fun x u hu => by
      unfold outB
      rw [if_neg]
      · exact hu
      · rintro ⟨h1, _⟩
        rw [(S0.own.fr x (bsm x h1)).1] at hu
        cases hu
    have nn : ∀ x, outB B H (b :: ws) [] x = none → B x = none := fun x hx => by
      unfold outB at hx
      split at hx
      · rename_i hm
        exact (S0.own.fr x (bsm x hm.1)).1
      · exact hx
    have cell : ∀ x ∈ (b :: ws), ∃ o, H x = some o ∧ Cell o := RF.cell (K := K) (F := F) (r := .l .n) (v := .ref b) (d := .lst ds) (.l c t)
    have S1 : Stt K (outB B H (b :: ws) []) F F H cs := by
      refine ⟨⟨fun x => ?_, fun x hx => ?_⟩, ?_, Gr.refl _ _, S0.fh⟩
      · have h2 := e5 x
        have h4 := S0.own.one x
        omega
      · have h1 : 0 < cs.count x := List.count_pos_iff.mpr hx
        have h4 := e5 x
        have h5 := S0.own.one x
        have hm : x ∈ as := List.count_pos_iff.mp (by omega)
        refine ⟨?_, (S0.own.fr x hm).2⟩
        unfold outB
        rw [if_neg]
        · exact (S0.own.fr x hm).1
        · rintro ⟨q1, _⟩
          have q3 : 0 < (b :: ws).count x := List.count_pos_iff.mpr q1
          omega
      · intro x u hu
        unfold outB at hu
        split at hu
        · exact hu
        · exact S0.bh x u hu
    refine ⟨b, _, F, vs, e1, c, ?_, t.repN, ⟨F, cs, e3 .z (.adr b) (.z (.adr b)), S1⟩, ex, S0.gr, nn, ?_⟩
    · unfold outB
      rw [if_pos ⟨by simp, by simp⟩]
      exact c
    · rintro H2 σ2 e ⟨F2, as2, R2, S2⟩ hei
      obtain ⟨x3, bs3, cs3, p1, p2, p3, p4, p5⟩ := R2.out hei
      have hx3 : x3 = .ref b := by
        cases p2 with
        | z h => cases h; rfl
      subst hx3
      have fr2 : ∀ x, x ∈ (b :: ws) → H2 x = H x ∧ F2 x = none ∧ as2.count x = 0 := fun x h1 => by
        obtain ⟨o, ho, _⟩ := cell x h1
        have hb : outB B H (b :: ws) [] x = some o := by unfold outB; rw [if_pos ⟨h1, by simp⟩]; exact ho
        refine ⟨by rw [S2.bh x o hb, ho], ?_, ?_⟩
        · cases hq : F2 x with
          | none => rfl
          | some u =>
            have := S2.gr.new x (S0.own.fr x (bsm x h1)).2 (by rw [hq]; simp)
            rw [hb] at this
            cases this
        · refine List.count_eq_zero.mpr fun hm => ?_
          have := (S2.own.fr x hm).1
          rw [hb] at this
          cases this
      have q2 : RF K F2 H2 (.l .n) (.ref b) (.lst ds) (b :: ws) := RF.mono (r := .l .n) S2.gr.ex (.l c t) fun x hx o ho => by rw [(fr2 x hx).1]; exact ho
      obtain ⟨cs5, m1, m2⟩ := p4.set q2 (i := i) (by
        have := (List.getElem?_eq_some_iff.mp hei).1
        rw [List.length_set]
        exact this)
      rw [St.set_same p1, List.set_set] at m1
      refine ⟨F2, cs5, m1, ⟨fun x => ?_, fun x hx => ?_⟩, ex.trans S2.bh, S0.gr.trans S2.gr ex, S2.fh⟩
      · have h1 := m2 x
        have h3 := p5 x
        have h4 := S2.own.one x
        by_cases hm : x ∈ (b :: ws)
        · have h5 := (fr2 x hm).2.2
          have h6 := e5 x
          have h7 := S0.own.one x
          omega
        · have h7 := List.count_eq_zero.mpr hm
          omega
      · have h0 : 0 < cs5.count x := List.count_pos_iff.mpr hx
        have h1 := m2 x
        have h3 := p5 x
        by_cases hm : x ∈ (b :: ws)
        · exact ⟨(S0.own.fr x (bsm x hm)).1, (fr2 x hm).2.1⟩
        · have h7 := List.count_eq_zero.mpr hm
          have hx2 : x ∈ as2 := List.count_pos_iff.mp (by omega)
          exact ⟨nn x (S2.own.fr x hx2).1, (S2.own.fr x hx2).2⟩
def backO (i : Nat) (ds : List D) (b : Addr) : OS → OS
  | .next e => go e .next
  | .brk e => go e .brk
  | .cont e => go e .cont
  | .ret d => .ret d
  | _ => .stuck
where go (e : Env) (f : Env → OS) : OS := match e[i]? with
  | some (some (.z, .adr b')) => if b' = b then f (e.set i (some (.l .n, .lst ds))) else .stuck
  | _ => .stuck
noncomputable def mForO (i : Nat) (t : Tg) (mb : MS) : MS := fun env => match env[i]? with
  | some (some (.l .n, .lst ds)) => allA fun b => backO i ds b (mLoop t mb ds (env.set i (some (.z, .adr b))))
  | _ => .stuck
theorem back_end {B' F1 : Hp} {i : Nat} {ds : List D} {b : Addr} (ex : Ex B B') (g : Gr B F0 F1) (nn : ∀ x, B' x = none → B x = none)
    (back : ∀ H2 σ2 e, Sta X.K B' F1 H2 σ2 e → e[i]? = some (some (.z, .adr b)) → Sta X.K B F0 H2 σ2 (e.set i (some (.l .n, .lst ds))))
    {o : OS} {E : Ends} (h : EndS X W B F0 R E (backO i ds b o)) : EndS X W B' F1 R E o := by
  have go : ∀ (e : Env) (f : Env → OS) (P : L2.St → Hp → Prop), (∀ e', EndS X W B F0 R E (f e') → ∀ σ H, Sta X.K B F0 H σ e' → P σ H) → EndS X W B F0 R E (backO.go i ds b e f) → ∀ σ H, Sta X.K B' F1 H σ e → P σ H := by
    intro e f P hf hh σ H S
    unfold backO.go at hh
    split at hh
    · rename_i b' h1
      split at hh
      · rename_i hq
        subst hq
        exact hf _ hh σ H (back H σ e S h1)
      · exact hh.elim
    · exact hh.elim
  cases o with
  | stuck => exact h
  | next e => exact go e .next _ (fun e' q σ H S => q σ H S) h
  | brk e => exact go e .brk _ (fun e' q σ H S => q σ H S) h
  | cont e => exact go e .cont _ (fun e' q σ H S => q σ H S) h
  | ret d => exact fun v H ⟨F, as, h1, h2, h3, h4, h5⟩ => h v H ⟨F, as, h1, ⟨h2.one, fun x hx => ⟨nn x (h2.fr x hx).1, (h2.fr x hx).2⟩⟩, ex.trans h3, g.trans h4 ex, h5⟩
  | err c e => exact h.elim
theorem s_forO (i : Nat) {x : Str} {tg : Expr} {body : List Stmt} {pos px : Pos} {t : Tg} {mb : MS} (hp : PassesOwn (model X.prog X.w) X.A X.env X.xe) (hc : X.calm = true) (hN : X.N[i]? = some x) (hv : Vis X.env.scope x) (hg : GT X tg t) (hb : ∀ B' : Hp, SSs X W B' R body mb)
    (hd : (x == ("__debug__" : Str)) = false := by decide) (hcd : (x == ("__classdict__" : Str)) = false := by decide) (hs : ∀ u, foldedSetIterable (.Name x px) X.env u = pure u := by intro _; rfl) : SS X W B R (.For tg (.Name x px) body [] pos) (mForO i t mb) := by
  have hb' : PSs X body (fun D σ H => ∃ B', tS X W B' R mb D σ H) := ⟨fun pins s σ H D I ⟨B', h⟩ => (hb B').run pins s σ H D I h⟩
  refine PS.weak (ps_for hp hc (pi_list (pe_var hN hv hd hcd)) hg hb' hs) fun D σ H ⟨F0, env, S, h⟩ => ?_
  unfold mForO at h
  cases he : env[i]? with
  | none => rw [he] at h; exact h.elim
  | some p =>
    cases p with
    | none => rw [he] at h; exact h.elim
    | some p =>
      obtain ⟨r0, d0⟩ := p
      rw [he] at h
      cases r0 <;> first | exact h.elim | skip
      rename_i r0
      cases r0 <;> first | exact h.elim | skip
      cases d0 <;> first | exact h.elim | skip
      rename_i ds
      dsimp only at h
      obtain ⟨b, B', F1, vs, e1, hH, hB, hrep, S1, ex, g, nn, back⟩ := out_run S he
      have h := back_end ex g nn back (allA_at h b)
      refine ⟨.ref b, e1, b, rfl, ⟨vs, SqL.of hH⟩, ?_⟩
      refine ⟨fun i m σ H => m = ds.length - i ∧ i ≤ ds.length ∧ ∃ env, Sta X.K B' F1 H σ env ∧ EndS X W B' F1 R D (mLoop t mb (ds.drop i) env), ⟨ds.length, by simp, Nat.zero_le _, _, S1, by simpa using h⟩, ?_⟩
      rintro i m σ H ⟨rfl, hi, env, S, h⟩
      obtain ⟨F, as, R2, S2⟩ := S
      have hHb : SqL X.K H b vs := SqL.of (S2.bh _ _ hB)
      by_cases hlt : i < ds.length
      · have hvl : i < vs.length := by rw [hrep.len]; exact hlt
        obtain ⟨v, g1, g2⟩ := hrep.get (i := i) (d := ds[i]) (by simp [hlt])
        refine .inr ⟨⟨vs, v, hHb, g1⟩, fun σ' H' => ∃ env, Sta X.K B' F1 H' σ' env ∧ EndS X W B' F1 R D (mLoop t mb (ds.drop (i + 1)) env), fun σ' H' p => ⟨ds.length - (i + 1), by omega, rfl, hlt, p⟩, fun x H' y => ?_⟩
        obtain ⟨rfl, y⟩ := y
        have hx := y vs hHb
        rw [g1] at hx
        cases hx
        rw [List.drop_eq_getElem_cons hlt] at h
        unfold mLoop at h
        cases hpt : t.put ds[i] env with
        | none => rw [hpt] at h; exact h.elim
        | some env1 =>
          rw [hpt] at h
          exact Tg.put_ok (B := B') (F0 := F1) R2 S2 (g2.mono S2.gr.ex) hpt fun σ' S' => ⟨B', F1, env1, S', EndS.turn h fun e he σ H S => ⟨e, S, he⟩⟩
      · have e : i = ds.length := by omega
        subst e
        rw [List.drop_length] at h
        exact .inl ⟨⟨vs, hHb, by rw [hrep.len]; exact Nat.le_refl _⟩, h σ H ⟨F, as, R2, S2⟩⟩
/-! ### for y in x: x a list of lists of the frame's own; each is lent to y for a turn -/
noncomputable def mFBL (i k : Nat) (b : Addr) (r : Fr) (mb : MS) : Nat → Nat → MS
  | p, 0 => fun env => match env[i]? with
    | some (some (.la b' (.l r'), .lst Ds)) => if b' = b ∧ frEq r' r = true ∧ Ds.length = p then .next env else .stuck
    | _ => .stuck
  | p, m + 1 => fun env => match env[i]? with
    | some (some (.la b' (.l r'), .lst Ds)) => if b' = b ∧ frEq r' r = true ∧ k < env.length ∧ i ≠ k ∧ Ds.length = p + (m + 1) then (match Ds[p]? with
      | some (.lst ds) => turn (allB fun _ a => fillO i k [(p : Int)] (.la b (.l r)) r (.lst Ds) b a (mb ((env.set i (some (.z, .adr b))).set k (some (.la a r, .lst ds))))) (mFBL i k b r mb (p + 1) m)
      | _ => .stuck) else .stuck
    | _ => .stuck
def unla (i : Nat) (b : Addr) : OS → OS
  | .next e => go e .next
  | .brk e => go e .brk
  | .cont e => go e .cont
  | .ret d => .ret d
  | _ => .stuck
where go (e : Env) (f : Env → OS) : OS := match e[i]? with
  | some (some (.la b' r, d)) => if b' = b then f (e.set i (some (.l r, d))) else .stuck
  | _ => .stuck
noncomputable def mForB (i k : Nat) (mb : MS) : MS := fun env => match env[i]? with
  | some (some (.l (.l r), .lst Ds)) => allA fun b => unla i b (mFBL i k b r mb 0 Ds.length (env.set i (some (.la b (.l r), .lst Ds))))
  | _ => .stuck
theorem Sta.toLa {K : PySem.W.Frag} {H : Hp} {σ : L2.St} {env : Env} {i : Nat} {r : Fr} {d : D} (S : Sta K B F0 H σ env) (he : env[i]? = some (some (.l r, d))) : ∃ b, σ[i]? = some (some (.ref b)) ∧ Sta K B F0 H σ (env.set i (some (.la b r, d))) := by
  obtain ⟨F, as, R0, S0⟩ := S
  obtain ⟨x0, bs, cs, e1, e2, e3, e4, e5⟩ := R0.out he
  cases e2 with
  | @l _ b vs _ ws c t =>
    obtain ⟨cs5, m1, m2⟩ := e4.set (RF.la (a := b) c t) (i := i) (by
      have := (List.getElem?_eq_some_iff.mp he).1
      rw [List.length_set]
      exact this)
    rw [St.set_same e1, List.set_set] at m1
    exact ⟨b, e1, F, cs5, m1, S0.own.sub fun x => by
      have := m2 x
      have := e5 x
      omega, S0.bh, S0.gr, S0.fh⟩
theorem Sta.unLa {K : PySem.W.Frag} {H : Hp} {σ : L2.St} {env : Env} {i : Nat} {r : Fr} {b : Addr} {d : D} (S : Sta K B F0 H σ env) (he : env[i]? = some (some (.la b r, d))) : Sta K B F0 H σ (env.set i (some (.l r, d))) := by
  obtain ⟨F, as, R0, S0⟩ := S
  obtain ⟨x0, bs, cs, e1, e2, e3, e4, e5⟩ := R0.out he
  cases e2 with
  | @la _ _ vs _ ws c t =>
    obtain ⟨cs5, m1, m2⟩ := e4.set (RF.l (a := b) c t) (i := i) (by
      have := (List.getElem?_eq_some_iff.mp he).1
      rw [List.length_set]
      exact this)
    rw [St.set_same e1, List.set_set] at m1
    exact ⟨F, cs5, m1, S0.own.sub fun x => by
      have := m2 x
      have := e5 x
      omega, S0.bh, S0.gr, S0.fh⟩
theorem unla_end {i : Nat} {b : Addr} {o : OS} {E : Ends} (h : EndS X W B F0 R E (unla i b o)) : EndS X W B F0 R E o := by
  have go : ∀ (e : Env) (f : Env → OS) (P : L2.St → Hp → Prop), (∀ e', EndS X W B F0 R E (f e') → ∀ σ H, Sta X.K B F0 H σ e' → P σ H) → EndS X W B F0 R E (unla.go i b e f) → ∀ σ H, Sta X.K B F0 H σ e → P σ H := by
    intro e f P hf hh σ H S
    unfold unla.go at hh
    split at hh
    · rename_i b' r d h1
      split at hh
      · rename_i hq
        subst hq
        exact hf _ hh σ H (S.unLa h1)
      · exact hh.elim
    · exact hh.elim
  cases o with
  | stuck => exact h
  | next e => exact go e .next _ (fun e' q σ H S => q σ H S) h
  | brk e => exact go e .brk _ (fun e' q σ H S => q σ H S) h
  | cont e => exact go e .cont _ (fun e' q σ H S => q σ H S) h
  | ret d => exact h
  | err c e => exact h.elim
theorem Sta.la_at {K : PySem.W.Frag} {H : Hp} {σ : L2.St} {env : Env} {i : Nat} {r : Fr} {b : Addr} {ds : List D} (S : Sta K B F0 H σ env) (he : env[i]? = some (some (.la b r, .lst ds))) : σ[i]? = some (some (.ref b)) ∧ ∃ vs, H b = some (.lst vs) ∧ vs.length = ds.length := by
  obtain ⟨F, as, R0, S0⟩ := S
  obtain ⟨x0, bs, cs, e1, e2, e3, e4, e5⟩ := R0.out he
  cases e2 with
  | @la _ _ vs _ ws c t => exact ⟨e1, vs, c, t.len.2⟩
theorem s_forB (k i : Nat) {x y : Str} {body : List Stmt} {pos px py : Pos} {mb : MS} (hp : PassesOwn (model X.prog X.w) X.A X.env X.xe) (hc : X.calm = true) (hnd : X.N.Nodup) (hN : X.N[i]? = some x) (hv : Vis X.env.scope x) (hk : X.N[k]? = some y) (hy : Loc X.env.scope y) (hb : ∀ B' : Hp, SSs X W B' R body mb)
    (hf : X.fn y = true ∨ X.env.scope.names.lookup y = some .local := by first | exact .inl rfl | exact .inr rfl | assumption) (hd : (x == ("__debug__" : Str)) = false := by decide) (hcd : (x == ("__classdict__" : Str)) = false := by decide) (hs : ∀ u, foldedSetIterable (.Name x px) X.env u = pure u := by intro _; rfl) :
    SS X W B R (.For (.Name y py) (.Name x px) body [] pos) (mForB i k mb) := by
  have hb' : PSs X body (fun D σ H => ∃ B', tS X W B' R mb D σ H) := ⟨fun pins s σ H D I ⟨B', h⟩ => (hb B').run pins s σ H D I h⟩
  refine PS.weak (ps_for hp hc (pi_list (pe_var hN hv hd hcd)) (pg_name hnd hk hy hf) hb' hs) fun D σ H ⟨F0, env, S, h⟩ => ?_
  unfold mForB at h
  cases he : env[i]? with
  | none => rw [he] at h; exact h.elim
  | some p =>
    cases p with
    | none => rw [he] at h; exact h.elim
    | some p =>
      obtain ⟨r0, d0⟩ := p
      rw [he] at h
      cases r0 <;> first | exact h.elim | skip
      rename_i r0
      cases r0 <;> first | exact h.elim | skip
      rename_i r
      cases d0 <;> first | exact h.elim | skip
      rename_i Ds
      dsimp only at h
      obtain ⟨b, e1, S1⟩ := S.toLa he
      have h0 := unla_end (allA_at h b)
      clear h
      have hil : i < env.length := (List.getElem?_eq_some_iff.mp he).1
      obtain ⟨_, vs0, hb0, _⟩ := S1.la_at (ds := Ds) (by rw [List.getElem?_set_self hil])
      refine ⟨.ref b, e1, b, rfl, ⟨vs0, SqL.of hb0⟩, ?_⟩
      refine ⟨fun j m σ H => ∃ env, Sta X.K B F0 H σ env ∧ EndS X W B F0 R D (mFBL i k b r mb j m env), ⟨Ds.length, _, S1, h0⟩, ?_⟩
      rintro j m σ H ⟨env, S, h⟩
      cases m with
      | zero =>
        unfold mFBL at h
        split at h
        · rename_i b' r' Ds' hei
          split at h
          · rename_i hq
            obtain ⟨rfl, hr, rfl⟩ := hq
            obtain ⟨hσ, vs, hHb, hvl⟩ := S.la_at hei
            exact .inl ⟨⟨vs, SqL.of hHb, by omega⟩, h σ H S⟩
          · exact h.elim
        · exact h.elim
      | succ m =>
        unfold mFBL at h
        split at h
        · rename_i b' r' Ds' hei
          split at h
          · rename_i hq
            obtain ⟨hb1, hr, hkl, hik, hdl⟩ := hq
            subst hb1
            have hre := frEq_eq hr
            subst hre
            obtain ⟨hσ, vs, hHb, hvl⟩ := S.la_at hei
            have hjv : j < vs.length := by omega
            refine .inr ⟨⟨vs, vs[j], SqL.of hHb, by simp [hjv]⟩, fun σ' H' => ∃ env, Sta X.K B F0 H' σ' env ∧ EndS X W B F0 R D (mFBL i k b' r' mb (j + 1) m env), fun σ' H' p => ⟨m, by omega, p⟩, fun z H' yl => ?_⟩
            obtain ⟨eH, yl⟩ := yl
            subst eH
            have hz := yl vs (SqL.of hHb)
            cases hdj : Ds'[j]? with
            | none => rw [hdj] at h; exact h.elim
            | some dj =>
              rw [hdj] at h
              cases dj <;> first | exact h.elim | skip
              rename_i ds
              dsimp only at h
              obtain ⟨b2, a, B', F1, g1, g2, S2, ex, g, nn, back⟩ := bor_item (k := k) S hei hdj hkl hik
              have eb : b2 = b' := by
                rw [hσ] at g1
                cases g1
                rfl
              subst eb
              have hza : z = .ref a := by
                have d1 := g2 vs hHb
                rw [hz] at d1
                cases d1
                rfl
              subst hza
              have hfill := EndS.turn (N := fun σ' H' => ∃ env, Sta X.K B F0 H' σ' env ∧ EndS X W B F0 R D (mFBL i k b2 r' mb (j + 1) m env)) h (fun e he σ H S => ⟨e, S, he⟩)
              exact ⟨B', F1, _, S2, fill_end ex g nn back (allB_at hfill 0 a)⟩
          · exact h.elim
        · exact h.elim
end
end U
namespace U
open PySem L2
open Evl (Ex)
section
variable {X : Cx} {W : WX} {B F0 : Hp} {R : Fr}
/-! ### y = x[e]: what is shared, read out of what is the frame's own -/
def mPeek (i k : Nat) (mj : MA) : MS := fun env => match mj (dOf env) with
  | .vals jd => (match intsD jd with
    | some js => (match env[i]? with
      | some (some (r0, d0)) => (match dig d0 js, digF 0 r0 js with
        | some d, some .z => if k < env.length then .next (env.set k (some (.z, d))) else .stuck
        | some d, some .n => if k < env.length then .next (env.set k (some (.n, d))) else .stuck
        | _, _ => .stuck)
      | _ => .stuck)
    | none => .stuck)
  | _ => .stuck
theorem s_peek (k i : Nat) {x : Str} {o : Expr} {pos pos' : Pos} {mj : MA} (hN : X.N.Nodup) (hk : X.N[k]? = some x) (hx : Loc X.env.scope x) (ho : SP X W i o mj)
    (hs : swapsWith o (some (.Name x pos')) pos.line X.env = pure false := by rfl) (hf : X.fn x = true ∨ X.env.scope.names.lookup x = some .local := by first | exact .inl rfl | exact .inr rfl | assumption) :
    SS X W B R (.Assign [.Name x pos'] o pos) (mPeek i k mj) := by
  refine PS.weak (ps_set hN hk hx ho hs hf) fun D σ H ⟨F0, env, S, h⟩ => ?_
  unfold mPeek at h
  cases hj : mj (dOf env) with
  | stuck => rw [hj] at h; exact h.elim
  | err c => rw [hj] at h; exact h.elim
  | vals jd =>
    rw [hj] at h
    dsimp only at h
    cases hi : intsD jd with
    | none => rw [hi] at h; exact h.elim
    | some js =>
      rw [hi] at h
      dsimp only at h
      cases he : env[i]? with
      | none => rw [he] at h; exact h.elim
      | some p =>
        cases p with
        | none => rw [he] at h; exact h.elim
        | some p =>
          obtain ⟨r0, d0⟩ := p
          rw [he] at h
          dsimp only at h
          cases hd : dig d0 js with
          | none => rw [hd] at h; exact h.elim
          | some d1 =>
            rw [hd] at h
            cases hr : digF 0 r0 js with
            | none => rw [hr] at h; exact h.elim
            | some r1 =>
              rw [hr] at h
              obtain ⟨F, as, R0, S0⟩ := S
              obtain ⟨x0, bs, e1, e2, e3, _⟩ := R0.hole he S0.own.one
              obtain ⟨v, as1, g1, g2⟩ := RF.dig (G := H) S0.fh e2 (fun b => Nat.le_trans (e3 b) (S0.own.one b)) (fun _ _ _ h => h) hd hr
              have fin : ∀ r', r1 = r' → (r' = .z ∨ r' = .n) → EndS X W B F0 R D (if k < env.length then .next (env.set k (some (r', d1))) else .stuck) → tAsg (tPth X W i mj) (gName k) D σ H := by
                intro r' er hr' h
                split at h
                · rename_i hkl
                  refine ⟨H, dOf env, Ex.refl _, (R0.dz fun a ha => (S0.own.fr a ha).2).mono (plus_sub S0.fh), ?_⟩
                  rw [hj]
                  refine ⟨js, x0, v, intsD_map hi, e1, g1, fun H' eH => ?_⟩
                  have sub := g2.sub
                  subst er
                  have q : RF X.K F H' r1 v d1 [] := by
                    rcases hr' with rfl | rfl
                    · cases sub with
                      | z q => exact .z q
                    · cases sub with
                      | n q z => exact .n q z
                  obtain ⟨cs, c1, c2⟩ := (R0.mono (H' := H') (Ex.refl _) fun a _ o h => eH a o h).set q hkl
                  exact h _ _ ⟨F, cs, c1, S0.own.sub (fun a => by have := c2 a; simpa using this), S0.bh.trans eH, S0.gr, S0.fh.trans eH⟩
                · exact h.elim
              cases r1 with
              | z => exact fin .z rfl (.inl rfl) h
              | n => exact fin .n rfl (.inr rfl) h
              | _ => exact h.elim
/-! ### x.append(y): what y holds of its own goes into x -/
def mAppMv (i k : Nat) (mj : MA) (r : Fr) : MS := fun env => match mj (dOf env) with
  | .vals jd => (match intsD jd with
    | some js => (match env[k]? with
      | some (some (rk, d)) => (match cellAt (env.set k none) i js with
        | some (r', ds) => if frEq r' r = true ∧ frEq rk r = true ∧ ds.length < 100000 then .next (putAt (env.set k none) i js (ds ++ [d])) else .stuck
        | none => .stuck)
      | _ => .stuck)
    | none => .stuck)
  | _ => .stuck
theorem s_appMv (i k : Nat) {o : Expr} {y : Str} {yp apos cpos pos : Pos} {mj : MA} {r : Fr} (ho : SP X W i o mj) (hN : X.N[k]? = some y) (hv : Vis X.env.scope y)
    (hd : (y == ("__debug__" : Str)) = false := by decide) (hcd : (y == ("__classdict__" : Str)) = false := by decide)
    (hbase : attributeBase o "append" X.env (eval o X.env) = eval o X.env := by rfl)
    (hfew : ((backTo cpos (starEach ((.Name y yp) :: []) X.env)).all (fun x => !x.1) && (backToKw cpos (keywordEach [] X.env)).all (fun x => x.1.isSome)
      && decide (((Expr.Name y yp) :: []).length + ([] : List Keyword).length + (if ([] : List Keyword).isEmpty then 0 else 1) < 30)) = true := by rfl)
    (hline : (apos.endLine == cpos.line) = true := by rfl) (hst : starEach ((.Name y yp) :: []) X.env = (false, eval (.Name y yp) X.env) :: starEach [] X.env := by rfl) (hplain : (backTo cpos (starEach [] X.env)).any (·.1) = false := by rfl)
    (hs : swapsWith (.Call (.Attribute o "append" apos) [.Name y yp] [] cpos) none pos.line X.env = pure false := by rfl) : SS X W B R (.Expr (.Call (.Attribute o "append" apos) [.Name y yp] [] cpos) pos) (mAppMv i k mj r) := by
  refine PS.weak (ps_expr (pe_bm PySem.F.plainAttrs_list PySem.F.slot_list_append PySem.F.type_list_append mt_append ho (pa_cons (pe_var hN hv hd hcd) pa_nil hst) hbase hfew hline hst hplain) hs) fun D σ H ⟨F0, env, S, h⟩ => ?_
  unfold mAppMv at h
  cases hj : mj (dOf env) with
  | stuck => rw [hj] at h; exact h.elim
  | err c => rw [hj] at h; exact h.elim
  | vals jd =>
    rw [hj] at h
    dsimp only at h
    cases hi : intsD jd with
    | none => rw [hi] at h; exact h.elim
    | some js =>
      rw [hi] at h
      dsimp only at h
      cases hk : env[k]? with
      | none => rw [hk] at h; exact h.elim
      | some p =>
        cases p with
        | none => rw [hk] at h; exact h.elim
        | some p =>
          obtain ⟨rk, d⟩ := p
          rw [hk] at h
          dsimp only at h
          cases hc : cellAt (env.set k none) i js with
          | none => rw [hc] at h; exact h.elim
          | some p =>
            obtain ⟨r', ds⟩ := p
            rw [hc] at h
            dsimp only at h
            split at h
            · rename_i hq
              cases frEq_eq hq.1
              cases frEq_eq hq.2.1
              obtain ⟨F, as, R0, S0⟩ := S
              obtain ⟨v, bs, cs, e1, e2, _, e4, e5⟩ := R0.out hk
              have own' : Own B F cs := S0.own.sub fun a => by have := e5 a; omega
              obtain ⟨x0, a, vs, ws, q1, q2, q3, q4, q5, q6, put⟩ := e4.cellAt own' S0.fh hc
              have hsub : Ex (plus F H cs) H := plus_sub S0.fh
              refine ⟨H, dOf env, Ex.refl _, (R0.dz fun a ha => (S0.own.fr a ha).2).mono (plus_sub S0.fh), ?_⟩
              rw [hj]
              refine ⟨js, x0, .ref a, intsD_map hi, q1, DigV.mono' hsub q2, fun H1 eH => ⟨.inl ⟨rfl, vs, SqL.of (eH _ _ q4)⟩, v, e1, ?_⟩⟩
              have hm : a ∈ as := by
                have h1 : 0 < cs.count a := List.count_pos_iff.mpr q3
                have := e5 a
                exact List.count_pos_iff.mp (by omega)
              have nb : a ∉ bs := fun z => by
                have h1 : 0 < cs.count a := List.count_pos_iff.mpr q3
                have h2 : 0 < bs.count a := List.count_pos_iff.mpr z
                have := e5 a
                have := S0.own.one a
                omega
              have nw : a ∉ ws := fun z => by
                have h1 := q6 a
                rw [List.count_cons_self] at h1
                have h2 : 0 < ws.count a := List.count_pos_iff.mpr z
                have := own'.one a
                omega
              refine ⟨a, vs, v, rfl, rfl, eH _ _ q4, Evl.sz_lt (by rw [q5.len.2]; exact hq.2.2), ?_⟩
              have q7 : RFs X.K F (upd H1 a (.lst (vs ++ [v]))) (List.replicate (vs ++ [v]).length r) (vs ++ [v]) (ds ++ [d]) (ws ++ bs) := by
                rw [List.length_append, List.length_singleton]
                refine (q5.snoc e2).mono (Ex.refl _) fun c hc' u hu => ?_
                rw [upd_ne (fun z => ?_)]
                · exact eH c u hu
                · subst z
                  rcases List.mem_append.mp hc' with z | z
                  · exact nw z
                  · exact nb z
              obtain ⟨cs2, c1, c2⟩ := put F H1 (vs ++ [v]) (ds ++ [d]) (ws ++ bs) (Ex.refl _) eH q7
              refine h σ _ ⟨F, cs2, c1, S0.own.sub fun c => ?_, Evl.Ex.mut (S0.bh.trans eH) (S0.own.fr a hm).1, S0.gr, Evl.Ex.mut (S0.fh.trans eH) (S0.own.fr a hm).2⟩
              have h1 := c2 c
              have h2 := e5 c
              rw [List.count_append] at h1
              omega
            · exact h.elim
end
end U

/-! U: more rules -/
namespace U
open PySem L2
open Evl (Ex)
section
variable {X : Cx} {W : WX} {B F0 : Hp} {R : Fr} {pos : Pos} {a b : Expr} {ra rb : Fr} {ma mb : ME}
/-! ### is True, is False -/
def fIsB (neg : Bool) : D → D → OE := fun x y => match x, y with
  | .bl a, .bl b => .val (.bl (if neg = true then !decide (a = b) else decide (a = b)))
  | _, _ => .stuck
theorem opD_isB : OpD X W .n (fun x y H Q => ∃ a b, x = .bl a ∧ y = .bl b ∧ Q (.bl (decide (a = b))) H) (fIsB false) := fun F H x y dx dy σ Q hF rx ry hp => by
  cases rx <;> first | exact hp.elim | skip
  cases ry <;> first | exact hp.elim | skip
  exact ⟨_, _, rfl, rfl, post_bl hF hp⟩
theorem opD_notB : OpD X W .n (fun x y H Q => ∃ a b, x = .bl a ∧ y = .bl b ∧ Q (.bl (!decide (a = b))) H) (fIsB true) := fun F H x y dx dy σ Q hF rx ry hp => by
  cases rx <;> first | exact hp.elim | skip
  cases ry <;> first | exact hp.elim | skip
  exact ⟨_, _, rfl, rfl, post_bl hF hp⟩
theorem e_isB (ha : SE X W ra a ma) (hb : SE X W rb b mb) (hm : behindInMarks .Is b = false := by with_unfolding_all rfl) : SE X W .n (.Compare a [.Is] [b] pos) (m2 (fIsB false) ma mb) := e_cmp op_is_bl opD_isB ha hb hm
theorem e_notB (ha : SE X W ra a ma) (hb : SE X W rb b mb) (hm : behindInMarks .IsNot b = false := by with_unfolding_all rfl) : SE X W .n (.Compare a [.IsNot] [b] pos) (m2 (fIsB true) ma mb) := e_cmp op_isnot_bl opD_notB ha hb hm
theorem st_isB (ha : SE X W ra a ma) (hb : SE X W rb b mb) (hm : behindInMarks .Is b = false := by with_unfolding_all rfl) : ST X W (.Compare a [.Is] [b] pos) (m2 (fIsB false) ma mb) := st_cmp op_is_bl opD_isB ha hb hm
theorem st_notB (ha : SE X W ra a ma) (hb : SE X W rb b mb) (hm : behindInMarks .IsNot b = false := by with_unfolding_all rfl) : ST X W (.Compare a [.IsNot] [b] pos) (m2 (fIsB true) ma mb) := st_cmp op_isnot_bl opD_notB ha hb hm
/-! ### str(i) -/
def fStr : List D → OE
  | [.int i] => if i.natAbs.log2 < 1920 then .val (.str (toString i)) else .stuck
  | _ => .stuck
theorem e_strc {p : Pos} {rs : List Fr} {mas : MA} (hg : Gl X "str") (hm : X.mg "str" = none) (ha : SA X W rs [a] mas) (he : starEach [a] X.env = (false, eval a X.env) :: starEach [] X.env := by rfl) : SE X W .n (.Call (.Name "str" p) [a] [] pos) (mCall fStr mas) :=
  e_callT call_str_int (fun F H vs ds σ Q hF r hp => by
    cases r with
    | nil => exact hp.elim
    | cons h1 t =>
      cases t with
      | nil =>
        cases h1 <;> first | exact hp.elim | skip
        dsimp only [fStr] at hp
        split at hp
        · rename_i hl
          exact ⟨_, rfl, hl, post_str hF hp⟩
        · exact hp.elim
      | cons h2 t => cases h1 <;> exact hp.elim) hg hm (by decide +kernel) ha (he := he)
/-! ### x[::-1] -/
def fRev : D → OE
  | .lst ds => .val (.lst ds.reverse)
  | .scr ns => .val (.lst (ns.reverse.map .int))
  | _ => .stuck
theorem RepL.rev {K : PySem.W.Frag} {F : Hp} : ∀ {vs : List V} {ds : List D}, RepL K F vs ds → RepL K F vs.reverse ds.reverse
  | _, _, .nil => .nil
  | _, _, .cons h t => by
    rw [List.reverse_cons, List.reverse_cons]
    exact t.rev.app (.cons h .nil)
theorem e_rev {k : Nat} {p1 p2 p3 : Pos} (ha : SE X W ra a ma) : SE X W (.l .z) (.Subscript a (.Slice none none (some (.UnaryOp .USub (.Constant (.int 1) k p1) p2)) p3) pos) (m1 fRev ma) :=
  PE.weak (pe_revL ha.toZ) fun σ H Q ⟨F, ev, hF, hz, hp⟩ => seqE hF hz hp fun d v H1 F1 _ e1 g1 f1 r1 z1 p1 => by
    cases r1 with
    | lst h r => exact ⟨_, _, rfl, sq_of f1 h, fun p hp => post_newL f1 p1 r.rev hp⟩
    | @scr q ns h =>
      refine ⟨q, _, rfl, Evl.ex_l f1 h, fun p hp => post_newL f1 p1 ?_ hp⟩
      rw [← List.map_reverse]
      exact repL_ints _
    | _ => exact p1.elim
/-! ### sorted(x), x a list of whole numbers -/
def fSortI : List D → OE
  | [.lst ds] => (match intsD ds with
    | some ns => .val (.lst ((ns.mergeSort (fun a b => decide (a ≤ b))).map .int))
    | none => .stuck)
  | _ => .stuck
theorem sort_eq {ns ms : List Int} (h1 : ms.Perm ns) (h2 : ms.Pairwise (· ≤ ·)) : ms = ns.mergeSort (fun a b => decide (a ≤ b)) := by
  have h3 : (ns.mergeSort (fun a b => decide (a ≤ b))).Perm ns := List.mergeSort_perm _ _
  have h4 : (ns.mergeSort (fun a b => decide (a ≤ b))).Pairwise (fun a b => decide (a ≤ b) = true) := List.pairwise_mergeSort (fun a b c h1 h2 => by simp at h1 h2 ⊢; omega) (fun a b => by simp; omega) ns
  have h5 : (ns.mergeSort (fun a b => decide (a ≤ b))).Pairwise (· ≤ ·) := h4.imp fun h => by simpa using h
  exact List.Perm.eq_of_pairwise (fun a b _ _ h1 h2 => by omega) h2 h5 (h1.trans h3.symm)
theorem e_sortI {p : Pos} {rs : List Fr} {mas : MA} (hg : Gl X "sorted") (hm : X.mg "sorted" = none) (ha : SA X W rs [a] mas) (he : starEach [a] X.env = (false, eval a X.env) :: starEach [] X.env := by rfl) : SE X W (.l .z) (.Call (.Name "sorted" p) [a] [] pos) (mCall fSortI mas) :=
  e_callB cr_sortedI (fun F H vs ds σ Q hF r hp => by
    cases r with
    | nil => exact hp.elim
    | cons h1 t =>
      cases t with
      | nil =>
        cases h1 <;> first | exact hp.elim | skip
        rename_i q vs ds h r
        have hp : Post X W σ Q F H (.l .z) (match intsD ds with
          | some ns => .val (.lst ((ns.mergeSort (fun a b => decide (a ≤ b))).map .int))
          | none => .stuck) := hp
        cases hi : intsD ds with
        | none => rw [hi] at hp; exact hp.elim
        | some ns =>
          rw [hi] at hp
          have e := r.ints (intsD_map hi)
          subst e
          exact ⟨q, ns, rfl, sq_of hF h, fun ns' p' h1 h2 h3 => by
            rw [sort_eq h1 h2]
            exact post_newL hF hp (repL_ints _) h3⟩
      | cons h2 t => cases h1 <;> exact hp.elim) hg hm (by decide +kernel) ha (he := he)
/-! ### a, b = e, f -/
def mPar (b : Bool) (i j : Nat) (r1 r2 : Fr) (ma : MA) : MS := fun env => match ma (vw b env) with
  | .vals [d1, d2] => if i < env.length ∧ j < env.length ∧ i ≠ j then .next ((env.set i (some (r1, d1))).set j (some (r2, d2))) else .stuck
  | .vals _ => .stuck
  | .err x => .err x env
  | .stuck => .stuck
end
/-! ### return (.., x, ..), x of the frame's own -/
inductive Pt where
  | own (i : Nat) | ex (me : ME)
def evP : List Pt → Env → OA
  | [], _ => .vals []
  | .own i :: r, env => (match env[i]? with
    | some (some (_, d)) => (match evP r env with
      | .vals ds => .vals (d :: ds)
      | o => o)
    | _ => .stuck)
  | .ex me :: r, env => (match me (dOf env) with
    | .val d => if noL d = true then (match evP r env with
      | .vals ds => .vals (d :: ds)
      | o => o) else .stuck
    | .err x => .err x
    | .stuck => .stuck)
def owns : List Pt → List Nat
  | [] => []
  | .own i :: r => i :: owns r
  | .ex _ :: r => owns r
def shapes : List Pt → Env → List Fr
  | [], _ => []
  | .own i :: r, env => (match env[i]? with
    | some (some (q, _)) => q
    | _ => .z) :: shapes r env
  | .ex _ :: r, env => .n :: shapes r env
def mRetT (ps : List Pt) (rs : List Fr) : MS := fun env => match evP ps env with
  | .vals ds => if (owns ps).Nodup ∧ frEqs (shapes ps env) rs = true ∧ ds.length ≤ 1000 then .ret (.tup ds) else .stuck
  | .err x => .err x env
  | .stuck => .stuck
section
variable {X : Cx} {W : WX} {B F0 : Hp} {R : Fr}
def tPt (X : Cx) (W : WX) : List Pt → TA
  | [] => tNil
  | .own i :: r => tCons (fun σ H Q => ∃ v, σ[i]? = some (some v) ∧ Q v H) (tPt X W r)
  | .ex me :: r => tCons (tE X W .n (mN me)) (tPt X W r)
def SPt (X : Cx) (W : WX) (es : List Expr) (ps : List Pt) : Prop := PA X es (tPt X W ps)
theorem pt_nil : SPt X W [] [] := pa_nil
theorem pt_own (i : Nat) {x : Str} {p : Pos} {es : List Expr} {ps : List Pt} (ht : SPt X W es ps) (hN : X.N[i]? = some x := by rfl) (hv : Vis X.env.scope x := by first | exact Or.inl rfl | exact Or.inr (Or.inl rfl) | exact Or.inr (Or.inr rfl)) (hd : (x == ("__debug__" : Str)) = false := by decide)
    (hcd : (x == ("__classdict__" : Str)) = false := by decide) (hs : starEach (.Name x p :: es) X.env = (false, eval (.Name x p) X.env) :: starEach es X.env := by rfl) : SPt X W (.Name x p :: es) (.own i :: ps) := pa_cons (pe_var hN hv hd hcd) ht hs
theorem pt_ex {e : Expr} {r : Fr} {me : ME} {es : List Expr} {ps : List Pt} (he : SE X W r e me) (ht : SPt X W es ps) (hs : starEach (e :: es) X.env = (false, eval e X.env) :: starEach es X.env := by rfl) : SPt X W (e :: es) (.ex me :: ps) := pa_cons he.toN ht hs
inductive LinkP (K : PySem.W.Frag) (F : Hp) (σ : L2.St) : List Pt → List V → List D → Env → Prop
  | nil {env : Env} : LinkP K F σ [] [] [] env
  | own {i : Nat} {ps : List Pt} {v : V} {vs : List V} {r : Fr} {d : D} {ds : List D} {env : Env} (h : σ[i]? = some (some v)) (he : env[i]? = some (some (r, d))) (t : LinkP K F σ ps vs ds env) : LinkP K F σ (.own i :: ps) (v :: vs) (d :: ds) env
  | ex {me : ME} {ps : List Pt} {v : V} {vs : List V} {d : D} {ds : List D} {env : Env} (h : Rep K F v d) (q : noL d = true) (t : LinkP K F σ ps vs ds env) : LinkP K F σ (.ex me :: ps) (v :: vs) (d :: ds) env
theorem LinkP.mono {K : PySem.W.Frag} {F F' : Hp} {σ : L2.St} {ps : List Pt} {vs : List V} {ds : List D} {env : Env} (h : LinkP K F σ ps vs ds env) (e : Ex F F') : LinkP K F' σ ps vs ds env := by
  induction h with
  | nil => exact .nil
  | own h he t ih => exact .own h he ih
  | ex h q t ih => exact .ex (h.mono e) q ih
theorem pt_run : ∀ (ps : List Pt) {σ : L2.St} {F H : Hp} {env : Env} {as : List Addr} {Q : List V → Hp → Prop}, EnvR X.K F H σ env as → Stt X.K B F0 F H as → evP ps env ≠ .stuck →
    (∀ x, evP ps env = .err x → ∀ H', Sta X.K B F0 H' σ env → ∀ C, X.mg x = some (.ref C) → W (.ref C) none σ H') →
    (∀ ds vs H' F', evP ps env = .vals ds → Ex F F' → EnvR X.K F' H' σ env as → Stt X.K B F0 F' H' as → LinkP X.K F' σ ps vs ds env → Q vs H') → tPt X W ps σ H Q
  | [], σ, F, H, env, as, Q, R0, S0, _, _, k => k [] [] H F rfl (Ex.refl _) R0 S0 .nil
  | .own i :: r, σ, F, H, env, as, Q, R0, S0, hn, he, k => by
    unfold evP at hn he k
    cases hi : env[i]? with
    | none => rw [hi] at hn; exact absurd rfl hn
    | some p =>
      cases p with
      | none => rw [hi] at hn; exact absurd rfl hn
      | some p =>
        obtain ⟨q, d⟩ := p
        rw [hi] at hn he k
        dsimp only at hn he k
        obtain ⟨v, bs, cs, e1, _⟩ := R0.out hi
        refine ⟨v, e1, pt_run r R0 S0 (fun z => ?_) (fun x hx => ?_) fun ds vs H' F' hd eF R1 S1 L => ?_⟩
        · rw [z] at hn; exact hn rfl
        · rw [hx] at he; exact he x rfl
        · rw [hd] at k; exact k (d :: ds) (v :: vs) H' F' rfl eF R1 S1 (.own e1 hi L)
  | .ex me :: r, σ, F, H, env, as, Q, R0, S0, hn, he, k => by
    unfold evP at hn he k
    refine Stt.eval (b := false) (.inr rfl) R0 S0 (fun z => ?_) (fun x hx H' S' C hC => ?_) fun d v H1 F1 bs hd e1 eF R1 rf S1 _ => ?_
    · rw [vw, if_neg (by decide)] at z
      unfold mN at z
      cases hm : me (dOf env) with
      | stuck => rw [hm] at hn; exact hn rfl
      | err x => rw [hm] at z; cases z
      | val d =>
        rw [hm] at z hn
        dsimp only at z hn
        split at z
        · cases z
        · rename_i hq
          rw [if_neg hq] at hn
          exact hn rfl
    · rw [vw, if_neg (by decide)] at hx
      unfold mN at hx
      cases hm : me (dOf env) with
      | stuck => rw [hm] at hx; cases hx
      | err y =>
        rw [hm] at hx he
        cases hx
        exact he x rfl H' S' C hC
      | val d =>
        rw [hm] at hx
        dsimp only at hx
        split at hx <;> cases hx
    · rw [vw, if_neg (by decide)] at hd
      unfold mN at hd
      cases hm : me (dOf env) with
      | stuck => rw [hm] at hd; cases hd
      | err y => rw [hm] at hd; cases hd
      | val d' =>
        rw [hm] at hd hn he k
        dsimp only at hd hn he k
        split at hd
        · rename_i hq
          cases hd
          rw [if_pos hq] at hn he k
          cases rf with
          | n hr hq' =>
            have S1' : Stt X.K B F0 F1 H1 as := by simpa using S1
            refine pt_run r R1 S1' (fun z => ?_) (fun x hx => ?_) fun ds vs H' F' hd eF2 R2 S2 L => ?_
            · rw [z] at hn; exact hn rfl
            · rw [hx] at he; exact he x rfl
            · rw [hd] at k
              exact k (d :: ds) (v :: vs) H' F' rfl (eF.trans eF2) R2 S2 (.ex (hr.mono eF2) hq L)
        · cases hd
theorem LinkP.wipe {K : PySem.W.Frag} {F : Hp} {σ : L2.St} {j : Nat} {ps : List Pt} {vs : List V} {ds : List D} {env : Env} (h : LinkP K F σ ps vs ds env) (hj : j ∉ owns ps) : LinkP K F σ ps vs ds (env.set j none) := by
  induction h with
  | nil => exact .nil
  | @own i ps v vs r d ds env h he t ih =>
    have h1 : j ≠ i ∧ j ∉ owns ps := by simpa [owns] using hj
    exact .own h (by rw [List.getElem?_set_ne h1.1]; exact he) (ih h1.2)
  | ex h q t ih => exact .ex h q (ih hj)
theorem shapes_wipe {j : Nat} : ∀ {ps : List Pt} {env : Env}, j ∉ owns ps → shapes ps (env.set j none) = shapes ps env
  | [], env, _ => rfl
  | .own i :: r, env, h => by
    have h1 : j ≠ i ∧ j ∉ owns r := by simpa [owns] using h
    unfold shapes
    rw [List.getElem?_set_ne h1.1, shapes_wipe h1.2]
  | .ex me :: r, env, h => by
    unfold shapes
    rw [shapes_wipe (ps := r) h]
theorem LinkP.take {K : PySem.W.Frag} {F H : Hp} {σ : L2.St} : ∀ {ps : List Pt} {vs : List V} {ds : List D} {env : Env} {as : List Addr}, LinkP K F σ ps vs ds env → EnvR K F H σ env as → (owns ps).Nodup → ∃ bs, RFs K F H (shapes ps env) vs ds bs ∧ ∀ a, bs.count a ≤ as.count a
  | [], _, _, _, _, .nil, _, _ => ⟨[], .nil, fun _ => Nat.zero_le _⟩
  | .own i :: r, _, _, env, as, .own (r := q) (d := d) (v := v) h he t, R0, hn => by
    have h1 : i ∉ owns r ∧ (owns r).Nodup := by simpa [owns] using hn
    obtain ⟨v', bs, cs, e1, e2, _, e4, e5⟩ := R0.out he
    rw [h] at e1
    cases e1
    obtain ⟨bs2, g1, g2⟩ := (t.wipe h1.1).take e4 h1.2
    rw [shapes_wipe h1.1] at g1
    refine ⟨bs ++ bs2, ?_, fun a => by
      have := g2 a
      have := e5 a
      rw [List.count_append]
      omega⟩
    unfold shapes
    rw [he]
    exact .cons e2 g1
  | .ex me :: r, _, _, env, as, .ex h q t, R0, hn => by
    obtain ⟨bs2, g1, g2⟩ := t.take R0 hn
    exact ⟨[] ++ bs2, .cons (.n h q) g1, by simpa using g2⟩
theorem LinkP.len {K : PySem.W.Frag} {F : Hp} {σ : L2.St} {ps : List Pt} {vs : List V} {ds : List D} {env : Env} (h : LinkP K F σ ps vs ds env) : vs.length = ds.length := by
  induction h with
  | nil => rfl
  | own h he t ih => simp [ih]
  | ex h q t ih => simp [ih]
theorem s_retT {es : List Expr} {x1} {p2 pos : Pos} {ps : List Pt} {rs : List Fr} (h : SPt X W es ps) : SS X W B (.t rs) (.Return (some (.Tuple es x1 p2)) pos) (mRetT ps rs) :=
  PS.weak (ps_ret (pe_tup h)) fun D σ H ⟨F0, env, S, h⟩ => by
    unfold mRetT at h
    obtain ⟨F, as, R0, S0⟩ := S
    refine pt_run ps R0 S0 (fun z => ?_) (fun x hx H' S' C hC => ?_) fun ds vs H' F' hd eF R1 S1 L => ?_
    · rw [z] at h; exact h
    · rw [hx] at h; exact h σ H' S' C hC
    · rw [hd] at h
      dsimp only at h
      split at h
      · rename_i hq
        refine ⟨by rw [L.len]; exact Nat.le_trans hq.2.2 (by decide), fun p hp => ?_⟩
        obtain ⟨bs, g1, g2⟩ := L.take R1 hq.1
        have hs := frEqs_eq hq.2.1
        rw [hs] at g1
        have fp : F' p = none := ex_none S1.fh hp
        have np : p ∉ bs := fun hm => by
          obtain ⟨o, ho, _⟩ := g1.cell p hm
          rw [hp] at ho
          cases ho
        have ow := S1.own.sub g2
        refine h (.ref p) (upd H' p (.tup vs)) ⟨upd F' p (.tup vs), bs, .t (.inl (.inl upd_same)) (g1.mono (Evl.Ex.new fp) fun a _ o h => Evl.Ex.new hp a o h), ⟨ow.one, fun a ha => ⟨(ow.fr a ha).1, ?_⟩⟩, S1.bh.trans (Evl.Ex.new hp), S1.gr.trans (gr_upd (B := B) (ex_none S1.bh hp) fp) (Ex.refl _), ex_updL S1.fh⟩
        rw [upd_ne (fun z => np (by rw [← z]; exact ha))]
        exact (ow.fr a ha).2
      · exact h.elim
def mParN (i j : Nat) (m1 m2 : ME) : MS := fun env => match evP [.ex m1, .ex m2] env with
  | .vals [d1, d2] => if i < env.length ∧ j < env.length then .next ((env.set i (some (.n, d1))).set j (some (.n, d2))) else .stuck
  | .vals _ => .stuck
  | .err x => .err x env
  | .stuck => .stuck
theorem s_par {i j : Nat} {x y : Str} {e1 e2 : Expr} {m1 m2 : ME} {px py pt p2 : Pos} {kt k2} {pos : Pos} (hc : X.calm = true) (hN : X.N.Nodup) (hi : X.N[i]? = some x) (hj : X.N[j]? = some y) (hij : i ≠ j)
    (hx : X.env.scope.names.lookup x = some .local) (hy : X.env.scope.names.lookup y = some .local) (h : SPt X W [e1, e2] [.ex m1, .ex m2])
    (hw : swappedStores [.Tuple [.Name x px, .Name y py] kt pt] (.Tuple [e1, e2] k2 p2) X.env = pure (some [x, y]))
    (hs : swapsWithSole [.Tuple [.Name x px, .Name y py] kt pt] (.Tuple [e1, e2] k2 p2) pos.line X.env = pure false := by rfl) :
    SS X W B R (.Assign [.Tuple [.Name x px, .Name y py] kt pt] (.Tuple [e1, e2] k2 p2) pos) (mParN i j m1 m2) :=
  PS.weak (ps_par hc hN hi hj hij hx hy h hw hs) fun D σ H ⟨F0, env, S, h⟩ => by
    unfold mParN at h
    obtain ⟨F, as, R0, S0⟩ := S
    refine pt_run [.ex m1, .ex m2] R0 S0 (fun z => ?_) (fun x hx H' S' C hC => ?_) fun ds vs H' F' hd eF R1 S1 L => ?_
    · rw [z] at h; exact h
    · rw [hx] at h; exact h σ H' S' C hC
    · rw [hd] at h
      cases L with
      | ex q1 z1 L =>
        cases L with
        | ex q2 z2 L =>
          cases L
          dsimp only at h
          split at h
          · rename_i hl
            obtain ⟨c1, g1, g2⟩ := R1.set (.n q1 z1) hl.1
            obtain ⟨c2, g3, g4⟩ := g1.set (.n q2 z2) (i := j) (by rw [List.length_set]; exact hl.2)
            exact ⟨_, _, rfl, h _ _ ⟨F', c2, g3, S1.own.sub (fun a => by have := g2 a; have := g4 a; simp at *; omega), S1.bh, S1.gr, S1.fh⟩⟩
          · exact h.elim
/-! ### a part of a new tuple -/
def mPart (j : Nat) (me : ME) : ME := fun ev => match me ev with
  | .val (.tup ds) => (match ds[j]? with
    | some d => .val d
    | none => .stuck)
  | .val _ => .stuck
  | o => o
theorem RFs.part {K : PySem.W.Frag} {F H : Hp} : ∀ {rs : List Fr} {vs : List V} {ds : List D} {as : List Addr} {j : Nat} {r : Fr} {d : D}, RFs K F H rs vs ds as → rs[j]? = some r → ds[j]? = some d → ∃ v bs, vs[j]? = some v ∧ RF K F H r v d bs ∧ ∀ a, bs.count a ≤ as.count a
  | _, _, _, _, _, _, _, .nil, h, _ => by simp at h
  | _, _, _, _, 0, r, d, .cons h t, h1, h2 => by
    simp at h1 h2
    subst h1 h2
    exact ⟨_, _, rfl, h, fun a => by rw [List.count_append]; omega⟩
  | _, _, _, _, j + 1, r, d, .cons h t, h1, h2 => by
    obtain ⟨v, bs, e1, e2, e3⟩ := RFs.part (j := j) t (by simpa using h1) (by simpa using h2)
    exact ⟨v, bs, by simpa using e1, e2, fun a => by have := e3 a; rw [List.count_append]; omega⟩
theorem e_part {e : Expr} {rs : List Fr} {me : ME} {j : Nat} {r : Fr} {q : Nat} {cp pos : Pos} (he : SE X W (.t rs) e me) (hr : rs[j]? = some r) : SE X W r (.Subscript e (.Constant (.int (j : Int)) q cp) pos) (mPart j me) :=
  PE.weak (pe_ix ix_seq he pe_int (fun _ _ => rfl)) fun σ H Q ⟨F, ev, hF, hz, hp⟩ => by
    refine ⟨F, ev, hF, hz, ?_⟩
    unfold mPart at hp
    cases hm : me ev with
    | stuck => rw [hm] at hp; exact hp
    | err x => rw [hm] at hp; exact hp
    | val d =>
      rw [hm] at hp
      cases d <;> first | exact hp.elim | skip
      rename_i ds
      dsimp only at hp
      intro v H' F' as e1 g1 f1 rf o
      cases hd : ds[j]? with
      | none => rw [hd] at hp; exact hp.elim
      | some d =>
        rw [hd] at hp
        cases rf with
        | @t _ a vs _ as h t =>
          obtain ⟨v, bs, q1, q2, q3⟩ := t.part hr hd
          have hv : atI vs (j : Int) = some v := by
            unfold atI ixN
            have := (List.getElem?_eq_some_iff.mp q1).1
            rw [if_pos (by omega), if_pos (by omega), Int.toNat_natCast]
            exact q1
          exact .inr (.inl ⟨a, vs, _, v, rfl, rfl, Evl.ex_t f1 h, hv, hp v H' F' bs e1 g1 f1 q2 (o.sub q3)⟩)
/-- e; a new list of its own, dropped -/
theorem s_exprO {e : Expr} {pos : Pos} {r : Fr} {me : ME} (he : SE X W r e me) (hz : r.zf = true) (hs : swapsWith e none pos.line X.env = pure false := by rfl) : SS X W B R (.Expr e pos) (mExpr false me) :=
  PS.weak (ps_expr he hs) fun D σ H ⟨F0, env, S, h⟩ => by
    unfold mExpr at h
    refine Sta.eval (b := false) (.inr hz) S (fun z => ?_) (fun y hy H' S' C hC => ?_) fun d v H' F' as bs hm R1 rf S1 _ => ?_
    · rw [z] at h; exact h
    · rw [hy] at h; exact h σ H' S' C hC
    · rw [hm] at h
      exact h _ _ ⟨F', as, R1, S1.left⟩
/-- a, b = a list of two -/
def gTL (K : PySem.W.Frag) (is : List Nat) : TG := fun v σ H Q => ∃ a vs, v = .ref a ∧ SqL K H a vs ∧ vs.length = is.length ∧ Q (setV σ is vs) H
theorem gt_ls {es : List Expr} {k} {pos : Pos} {is : List Nat} (hc : X.calm = true) (h : GTs X es is) (hn : (assignEach es X.env).length = is.length := by rfl) (hst : (assignEach es X.env).findIdx? (·.1) = none := by rfl) : PG X (.Tuple es k pos) (gTL X.K is) := ⟨fun pins s σ H v u Q I r q => by
  obtain ⟨a, vs, h1, h2, h3, h4⟩ := q
  exact (pg_lst hc h.2 hn hst).run pins s σ H v u Q I r ⟨a, vs, h1, h2, h3, h3, h4⟩⟩
def mAsgLz (is : List Nat) (me : ME) : MS := fun env => onE (me (vw true env)) env fun d => match d with
  | .lst ds => if ds.length = is.length ∧ (∀ i ∈ is, i < env.length) then .next (setE env is (List.replicate ds.length .z) ds) else .stuck
  | _ => .stuck
theorem RF.partsL {K : PySem.W.Frag} {F H : Hp} {v : V} {ds : List D} {bs : List Addr} (h : RF K F H .z v (.lst ds) bs) : ∃ a vs, v = .ref a ∧ F a = some (.lst vs) ∧ RFs K F H (List.replicate ds.length .z) vs ds bs := by
  cases h with
  | z h =>
    cases h with
    | lst h r => exact ⟨_, _, rfl, h, by rw [← r.len]; exact rfs_z r⟩
theorem s_asgLz {tg : Expr} {is : List Nat} {r : Fr} {e : Expr} {pos : Pos} {me : ME} (hg : PG X tg (gTL X.K is)) (he : SE X W r e me) (hs : swapsWithSole [tg] e pos.line X.env = pure false := by rfl) (hw : swappedStores [tg] e X.env = pure none := by rfl) (h1 : (assignEach [tg] X.env).map (·.2) = [assign tg X.env] := by rfl) :
    SS X W B R (.Assign [tg] e pos) (mAsgLz is me) := PS.weak (ps_asg he.toZ hg hs hw h1) fun D σ H ⟨F0, env, S, h⟩ => by
    unfold mAsgLz at h
    refine Sta.eval (b := true) (.inl rfl) S (fun z => ?_) (fun y hy H' S' C hC => ?_) fun d v H' F' as bs hm R1 rf S1 _ => ?_
    · rw [z] at h; exact h
    · rw [hy] at h; exact h σ H' S' C hC
    · rw [hm] at h
      dsimp only [onE] at h
      cases d <;> first | exact h.elim | skip
      rename_i ds
      dsimp only at h
      split at h
      · rename_i hi
        obtain ⟨a, vs, rfl, hs, q⟩ := rf.partsL
        have hl : vs.length = is.length := by rw [q.len.2]; exact hi.1
        obtain ⟨cs, h1, h2⟩ := R1.setV q hi.2 hl
        exact ⟨a, vs, rfl, SqL.of (S1.fh _ _ hs), hl, h _ _ ⟨F', cs, h1, S1.own.sub (fun a => by rw [List.count_append]; exact h2 a), S1.bh, S1.gr, S1.fh⟩⟩
      · exact h.elim
end
end U

/-! U: try .. except C as x: .. else: .. -/
namespace U
open PySem PySem.Spec PyProof.Rows L2
section
variable {X : Cx} {q nm : Str} {cV : Value} {k : Nat} {bd su el : List Stmt} {fi : Stmt} {qp p1 p2 : Pos} {tB : WX → TS} {tS0 : Addr → Value → Option Addr → TS} {Wo : WX} {tE0 : TS}
/-- the rule: slot k is nm's -/
theorem as_else (he : PSs X el tE0) (stk : X.stack = X.env :: X.outer) (frm : X.env.frame = some X.env.locals) (ndp : X.N.Nodup) (ixk : X.N[k]? = some nm) (lcl : X.env.kindOf nm = some .local) (nam : Names X q cV) (tkO : Takes X Wo)
    (pB : ∀ (V : WX) (ps : List (Addr × Obj)) (xf : Value → Shared → Prop), Takes (X.tr ps xf) V → PassesOwn (model X.prog X.w) X.A X.env xf → PSs (X.tr ps xf) bd (tB V))
    (pS : ∀ (z : Addr) (oz : Obj) (cl : Value) (dz : Option Addr) (ps : List (Addr × Obj)), Zc cl dz oz → (∃ fs, oz.data = .fields fs) → PSs (X.suite z ((z, oz) :: ps)) (fi :: su) (tS0 z cl dz)) :
    PS X (.Try bd [.ExceptHandler (some (.Name q qp)) (some nm) (fi :: su) p1] el [] p2) (fun D σ H => tB (wAs X.K cV k tS0 Wo D) { D with nx := tE0 D } σ H) := by
  refine ⟨fun pz st0 σ0 H0 D Iv hh => ?_⟩
  have okv := Iv.ok
  have frs0 : X.A.frames = some (X.env :: X.outer) := by rw [okv.frames, stk]
  have lc0 : Loc X.env.scope nm := .inl lcl
  refine wpAny_Try_except ?_
  refine wpAny_mono ((pB (wAs X.K cV k tS0 Wo D) (X.pn ++ pz) (fun ev t1 => wpAny (model X.prog X.w) X.A (noteFrame ev X.env) (fun _ t2 => wpAny (model X.prog X.w) X.A (setFlight ev none) (fun _ t3 =>
    wpAny (model X.prog X.w) X.A (handleBy ev X.env [.ExceptHandler (some (.Name q qp)) (some nm) (fi :: su) p1]) (L2.SP X pz D) X.xe t3) X.xe t2) X.xe t1) (fun uu sv xx => ?raised) PassesOwn.looking).run [] st0 σ0 H0 { D with nx := tE0 D } (Iv.toTry _) hh) (fun fl sv hsp => ?through) (fun _ _ hv => hv)
  case raised =>
    obtain ⟨z, Bz, sJ, pz', σ1, H1, cl, dz, rfl, Jt, nbz, upz, skz, naz, osz, agz, bb, hbb, onY, onN⟩ := xx
    have Jz : Inv X pz σ1 H1 sJ := Jt.ofTry okv
    have skz' : Sky Bz (X.env :: X.outer) z (Zc cl dz) X.env.locals sv.heap := by rw [← stk]; exact skz
    show wpAny (model X.prog X.w) X.A (noteFrame (.ref z) X.env) _ _ _
    refine Sky.land Zc.steady frs0 frm skz' fun g3 ff3 uu3 => ?_
    have Jz3 : Inv X pz σ1 H1 { sv with heap := g3 } := Jz.landed nbz ff3.1 (upz.trans uu3) osz agz
    obtain ⟨o3, fs3, at3, zc3, da3⟩ := ff3.there
    have off : ∀ {g : Heap} {o : Obj} {fs : Array Value}, g.FunFrames Bz (X.env :: X.outer) → g.get? z = some o → o.data = .fields fs → z ∉ frs (X.env :: X.outer) := fun {g o fs} gg ge gd gm => by
      obtain ⟨_, o', ge', gn⟩ := gg.mem gm
      rw [ge] at ge'; cases ge'
      exact gn _ gd
    have zfr := off ff3.2.2.1 at3 da3
    have zL : z ≠ X.env.locals := fun y => zfr (List.mem_filterMap.mpr ⟨X.env, List.mem_cons_self, by rw [frm, y]⟩)
    have zF : z ∉ X.fs := fun gm => by
      obtain ⟨ee, hee, qq⟩ := List.mem_filterMap.mp gm
      exact zfr (List.mem_filterMap.mpr ⟨ee, List.mem_cons_of_mem _ hee, qq⟩)
    have Sz3 := Jz3.suite at3 da3 naz zL zF
    refine wpAny_handleBy_cons (codeAny_handlers_test ?_) (fun qn => by cases qn)
    have lkA : PySem.W.Looks (model X.prog X.w) g3 (typeOf (.ref z)) cl := fun _ _ _ _ kk yes => wpAny_typeOf_ref (kk _ _ at3) (zc3.1.symm ▸ yes)
    have lkM := PySem.W.exm_one (M := model X.prog X.w) Jz3.kIn lkA hbb
    have tst : ∀ {Qv : Value → Shared → Prop} {Ev : Value → Shared → Prop}, Qv cV { sv with heap := g3 } → wpAny (model X.prog X.w) (X.A.mark (some (.ref z))) (eval (.Name q qp) X.env) Qv Ev { sv with heap := g3 } := fun {Qv Ev} yes => by
      obtain ⟨ng, nd, nm1 | ⟨nm1, nv, nn⟩⟩ := nam
      · exact ld_glob (X := X.suite z ((z, o3) :: (X.pn ++ pz))) Sz3 ng nm1 yes nd
      · exact ld_blt (X := X.suite z ((z, o3) :: (X.pn ++ pz))) Sz3 ng nm1 nv yes nn nd
    refine tst (lkM.here ?_)
    cases bb with
    | true =>
      refine codeAny_handlers_suite_as ?_
      refine HandSPX.lands_againZ ff3 fun g4 ff4 uu4 => ?_
      have Jz4 : Inv X pz σ1 H1 { sv with heap := g4 } := Jz.landed nbz ff4.1 ((upz.trans uu3).trans uu4) osz agz
      obtain ⟨o4, fs4, at4, zc4, da4⟩ := ff4.there
      have Sz4 := Jz4.suite at4 da4 naz zL zF
      refine store_ok (X := X.suite z ((z, o4) :: (X.pn ++ pz))) (v := .ref z) Sz4 ndp ixk lc0 rfl (fun t5 Sz5 => ?_) (.inr lcl)
      refine wpAny_mono ((pS z o4 cl dz (X.pn ++ pz) zc4 ⟨_, da4⟩).run [] t5 _ H1 _ Sz5 (onY rfl z naz)) (fun fl t6 hsp => ?_) (fun _ _ no => no.elim)
      have fin6 : ∀ {σ6 : L2.St} {H6 : Hp} {Qs : Shared → Prop}, Inv (X.suite z ((z, o4) :: (X.pn ++ pz))) [] σ6 H6 t6 → (∀ t7, Inv X pz (σ6.set k none) H6 t7 → Qs t7) →
          wpAny (model X.prog X.w) X.A (do bindName X.env nm .none; unbindBehindTheSuite X.env nm p1) (fun _ t7 => Qs t7) X.xe t6 := fun {σ6 H6 Qs} I6 kq => gone_ok (I6.unsuite okv) ndp ixk lcl kq
      cases fl with
      | next => obtain ⟨_, _, I6, r6⟩ := hsp; exact fin6 I6 fun t7 I7 => ⟨_, _, I7, r6⟩
      | brk => obtain ⟨_, _, I6, r6⟩ := hsp; exact fin6 I6 fun t7 I7 => ⟨_, _, I7, r6⟩
      | cont => obtain ⟨_, _, I6, r6⟩ := hsp; exact fin6 I6 fun t7 I7 => ⟨_, _, I7, r6⟩
      | ret uv => obtain ⟨_, _, _, I6, rr, r6⟩ := hsp; exact fin6 I6 fun t7 I7 => ⟨_, _, _, I7, rr, r6⟩
    | false =>
      show wpAny _ X.A (handleBy (.ref z) X.env []) _ _ _
      refine wpAny_handleBy_nil ?_
      obtain ⟨_, _, _, o5, fs5, Tb, oT, tb5, at5, zc5, da5, h15, hr5⟩ := id ff3
      unfold PySem.passOn
      refine wpAny_bind (wpAny_field at5 da5 h15 ?_)
      rw [if_neg (show ¬ ((Value.ref Tb == Value.none) = true) from by simp)]
      have gone : wpAny (model X.prog X.w) X.A (setFlight (.ref z) X.env.frame) (fun _ t4 => wpAny (model X.prog X.w) X.A (throw (.ref z) : Sem Flow) (L2.SP X pz D) X.xe t4) X.xe { sv with heap := g3 } := by
        rw [frm]
        refine HandSPX.setFlight_upZ ff3 fun g4 hg4 uu4 => wpAny_throw (tkO _ _ ?_)
        exact ⟨z, Bz, sJ, pz, σ1, H1, cl, dz, rfl, Jz, nbz, (upz.trans uu3).trans uu4, .inr (.inr (by rw [stk]; exact hg4)), naz, osz, agz, onN rfl⟩
      first
        | exact wpAny_bind (wpAny_pure (wpAny_bind gone))
        | exact wpAny_bind gone
  case through =>
    cases fl with
    | next => obtain ⟨_, _, J6, r6⟩ := hsp; exact he.run pz sv _ _ D (J6.ofTry okv) r6
    | brk => obtain ⟨_, _, J6, r6⟩ := hsp; exact ⟨_, _, J6.ofTry okv, r6⟩
    | cont => obtain ⟨_, _, J6, r6⟩ := hsp; exact ⟨_, _, J6.ofTry okv, r6⟩
    | ret uv => obtain ⟨_, _, _, J6, rr, r6⟩ := hsp; exact ⟨_, _, _, J6.ofTry okv, rr, r6⟩
end
section
variable {X : Cx} {W : WX} {B F0 : Hp} {R : Fr}
noncomputable def mTryE (sub : Str → Option Bool) (i : Nat) (mb : MS) (hm : Addr → Str → MS) (ml : MS) : MS := fun env => match mb env with
  | .next e => ml e
  | .err c e => (match sub c with
    | some true => if i < e.length then allA (fun a => dropO i (hm a c (e.set i (some (.z, .adr a))))) else .stuck
    | some false => .err c e
    | none => .stuck)
  | o => o
theorem s_tryAsE {x n : Str} (i : Nat) {body suite : List Stmt} {b₀ : Stmt} {np pos pos' : Pos} {orelse : List Stmt} {sub : Str → Option Bool} {mb : MS} {hm : Addr → Str → MS} {ml : MS}
    (hs : X.stack = X.env :: X.outer) (hf : X.env.frame = some X.env.locals) (hN : X.N.Nodup) (hi : X.N[i]? = some n) (hln : X.env.kindOf n = some .local) (hx : Gl X x) (hd : (x == ("__debug__" : Str)) = false) (ho : SubOk X.K X.mg sub x) (tk : Takes X W)
    (hb : ∀ (W' : WX) (pn : List (Addr × Obj)) (xe : Value → Shared → Prop), Takes (X.tr pn xe) W' → PassesOwn (model X.prog X.w) X.A X.env xe → SSs (X.tr pn xe) W' B R body mb)
    (hsu : ∀ (a : Addr) (c : Str) (C : Addr) (oe : Obj) (pn : List (Addr × Obj)), sub c = some true → X.mg c = some (.ref C) → Zc (.ref C) none oe → (∃ vs, oe.data = .fields vs) → SSs (X.suite a ((a, oe) :: pn)) wNo B R (b₀ :: suite) (hm a c))
    (hel : SSs X W B R orelse ml) :
    SS X W B R (.Try body [.ExceptHandler (some (.Name x np)) (some n) (b₀ :: suite) pos'] orelse [] pos) (mTryE sub i mb hm ml) := by
  obtain ⟨Ch, hmx, hsub⟩ := ho
  refine PS.weak (as_else (cV := .ref Ch) (tB := fun W' => tS X W' B R mb) (tS0 := fun a cls d D σ H => ∃ c C, cls = .ref C ∧ d = none ∧ sub c = some true ∧ X.mg c = some (.ref C) ∧ tS X wNo B R (hm a c) D σ H) (tE0 := tS X W B R ml)
    hel hs hf hN hi hln ⟨hx, hd, .inl hmx⟩ tk (fun W' pn xe t p => hb W' pn xe t p) (fun a oe cls d pn hz hfl => ⟨fun pins s σ H D I h => ?_⟩)) fun D σ H ⟨F0, env, S, h⟩ => ⟨F0, env, S, ?_⟩
  · obtain ⟨c, C, rfl, rfl, hsb, hc, h⟩ := h
    exact (hsu a c C oe pn hsb hc hz hfl).run pins s σ H D I h
  · unfold mTryE at h
    cases hq : mb env with
    | next e =>
      rw [hq] at h
      exact fun σ H S => ⟨F0, e, S, h⟩
    | err c e =>
      rw [hq] at h
      dsimp only at h
      intro σ H S C hC
      show ∃ b, _ ∧ _ ∧ _
      cases hb2 : sub c with
      | none => rw [hb2] at h; exact h.elim
      | some b =>
        rw [hb2] at h
        refine ⟨b, hsub c C b hb2 hC, fun hbt a na => ?_, fun hbf => ?_⟩
        · subst hbt
          dsimp only at h
          split at h
          · rename_i hl
            have h1 := drop_end (allA_at h a)
            obtain ⟨F, as, R1, S1⟩ := S
            obtain ⟨cs, h2, h3⟩ := R1.set (.z (.adr a)) hl
            exact ⟨c, C, rfl, rfl, hb2, hC, F0, _, ⟨F, cs, h2, S1.own.sub (fun b => by have := h3 b; simpa using this), S1.bh, S1.gr, S1.fh⟩, h1⟩
          · exact h.elim
        · subst hbf
          exact h σ H S C hC
    | _ => rw [hq] at h; exact h
end
end U

/-! U: {i: j}, xs.index(i) -/
namespace U
open PySem PySem.Spec PyProof.Rows L2
open Evl (Ex)
section
variable {X : Cx} {W : WX}
/-! ### {i: j} -/
theorem e_d1 {i j : Int} {k1 k2 : Nat} {p1 p2 pos : Pos} : SE X W .k (.Dict [some (.Constant (.int i) k1 p1)] [.Constant (.int j) k2 p2] pos) (mC (.dct [(.inl i, .int j)])) :=
  PE.weak (pe_disp (trs := [(tC (.int i), tC (.int j))]) (pps_cons pe_int pe_int pps_nil) rfl rfl (by simp) (by simp)) fun σ H Q ⟨F, ev, hF, hz, hp⟩ => fun q hq => by
    refine ⟨upd_same, [(.inl i, .int j)], rfl, by simp, ?_⟩
    rw [upd_upd]
    exact hp (.ref q) _ F [q] (Evl.Ex.new hq) (Gr.refl _ _) (hF.trans (Evl.Ex.new hq)) (.k upd_same (.cons (.int j) .nil)) ⟨fun a => by rw [List.count_singleton]; split <;> omega, fun a ha => by
      have e : a = q := by simpa using ha
      rw [e]
      exact ⟨hq, ex_none hF hq⟩⟩
/-! ### xs.index(i) -/
def fIdxO : D → D → OE
  | .lst ds, .int i => (match intsD ds with
    | some ns => if i ∈ ns then .val (.int (ns.idxOf i : Nat)) else .stuck
    | none => .stuck)
  | _, _ => .stuck
def idxK (me : ME) (ev : Ev) : D → OE
  | .lst ds => bindE (me ev) (fIdxO (.lst ds))
  | _ => .stuck
def mIdxO (mo me : ME) : ME := fun ev => bindE (mo ev) (idxK me ev)
theorem mIdxO_ap {mo me : ME} {ev : Ev} : mIdxO mo me ev = bindE (mo ev) (idxK me ev) := id rfl
theorem idxK_l {me : ME} {ev : Ev} {ds : List D} : idxK me ev (.lst ds) = bindE (me ev) (fIdxO (.lst ds)) := id rfl
variable {o e : Expr} {apos cpos : Pos} {ra rb : Fr} {mo me : ME}
theorem e_idxO (ho : SE X W ra o mo) (he : SE X W rb e me) (hbase : attributeBase o "index" X.env (eval o X.env) = eval o X.env := by rfl)
    (hfew : ((backTo cpos (starEach (e :: []) X.env)).all (fun x => !x.1) && (backToKw cpos (keywordEach [] X.env)).all (fun x => x.1.isSome)
      && decide ((e :: []).length + ([] : List Keyword).length + (if ([] : List Keyword).isEmpty then 0 else 1) < 30)) = true := by rfl)
    (hline : (apos.endLine == cpos.line) = true := by rfl) (hst : starEach (e :: []) X.env = (false, eval e X.env) :: starEach [] X.env := by rfl) (hplain : (backTo cpos (starEach [] X.env)).any (·.1) = false := by rfl) :
    SE X W .n (.Call (.Attribute o "index" apos) [e] [] cpos) (mIdxO mo me) :=
  PE.weak (pe_bm PySem.F.plainAttrs_list PySem.F.slot_list_index PySem.F.type_list_index mt_index ho.toZ (pa_cons he.toZ pa_nil hst) hbase hfew hline hst hplain) fun σ H Q ⟨F, ev, hF, hz, hp⟩ => seqE hF hz hp fun d v H1 F1 _ e1 g1 f1 r1 z1 p1 => by
    cases r1 <;> first | exact p1.elim | skip
    rename_i a vs ds h r hmo
    have p1 : Post X W σ Q F1 H1 .n (bindE (me ev) (fIdxO (.lst ds))) := p1
    refine ⟨.inl ⟨rfl, _, sq_of f1 h⟩, ?_⟩
    refine seqE f1 z1 p1 fun d2 v2 H2 F2 _ e2 g2 f2 r2 z2 p2 => ?_
    cases r2 <;> first | exact p2.elim | skip
    rename_i i hme
    have p2 : Post X W σ Q F2 H2 .n (match intsD ds with
      | some ns => if i ∈ ns then .val (.int (ns.idxOf i : Nat)) else .stuck
      | none => .stuck) := p2
    cases hi : intsD ds with
    | none => rw [hi] at p2; exact p2.elim
    | some ns =>
      rw [hi] at p2
      dsimp only at p2
      by_cases hm : i ∈ ns
      · rw [if_pos hm] at p2
        have ev := r.ints (intsD_map hi)
        subst ev
        have hlt := List.idxOf_lt_length_of_mem hm
        refine ⟨a, _, .int i, ns.idxOf i, .int i, rfl, rfl, sq_of (g2.ex.trans f2) h, rfl, ?_, ?_, ?_, ?_, post_int f2 p2⟩
        · rw [List.all_map, List.all_eq_true]
          intro x _
          rfl
        · rw [List.getElem?_map, List.getElem?_eq_getElem hlt, List.getElem_idxOf hlt]
          rfl
        · show (i == i) = true
          exact beq_self_eq_true i
        · intro m z' hm1 hz'
          rw [List.getElem?_map] at hz'
          have hml : m < ns.length := by omega
          rw [List.getElem?_eq_getElem hml] at hz'
          cases hz'
          have hne := List.not_of_lt_findIdx (show m < ns.findIdx (· == i) from hm1)
          show (ns[m] == i) = false
          simpa using hne
      · rw [if_neg hm] at p2
        exact p2.elim
end
end U

/-! U: min of a list of pairs -/
namespace U
open PySem PySem.Spec PyProof.Rows L2 PySem.W
open Evl (Ex)
section
variable {X : Cx} {W : WX}
/-! ### min of pairs -/
def ltP (p q : Int × Int) : Bool := decide (p.1 < q.1) || (decide (p.1 = q.1) && decide (p.2 < q.2))
def prsD : List D → Option (List (Int × Int))
  | [] => some []
  | .tup [.int a, .int b] :: ds => (match prsD ds with
    | some ps => some ((a, b) :: ps)
    | none => none)
  | _ :: _ => none
def dpr (p : Int × Int) : D := .tup [.int p.1, .int p.2]
theorem prsD_map : ∀ {ds : List D} {ps : List (Int × Int)}, prsD ds = some ps → ds = ps.map dpr
  | [], ps, h => by
    rw [prsD] at h
    cases h
    rfl
  | d :: ds, ps, h => by
    unfold prsD at h
    split at h
    · rename_i h0
      cases h0
    · rename_i a b ds' h0
      cases h0
      split at h
      · rename_i qs hq
        cases h
        rw [prsD_map hq]
        rfl
      · cases h
    · cases h
theorem prsD_prs : ∀ ps : List (Int × Int), prsD (ps.map dpr) = some ps
  | [] => rfl
  | p :: ps => by
    show (match prsD (ps.map dpr) with
      | some ps => some ((p.1, p.2) :: ps)
      | none => none) = _
    rw [prsD_prs ps]
theorem toPy_pr (p : Int × Int) : toPy (dpr p) = .tuple [.int p.1, .int p.2] := by
  unfold dpr
  rw [toPy, toPy.toPys, toPy.toPys, toPy.toPys, toPy, toPy]
theorem toPys_prs : ∀ ps : List (Int × Int), toPy.toPys (ps.map dpr) = ps.map fun p => PyData.tuple [.int p.1, .int p.2]
  | [] => by rw [List.map_nil, toPy.toPys]; rfl
  | p :: ps => by rw [List.map_cons, toPy.toPys, toPys_prs ps, toPy_pr]; rfl
theorem dataLt_pr (p q : Int × Int) : dataLt (.tuple [.int p.1, .int p.2]) (.tuple [.int q.1, .int q.2]) = ltP p q := by
  have e : ∀ a b : Int, PyData.eqv (.int a) (.int b) = decide (a = b) := fun a b => by
    rw [PyData.eqv]
    by_cases h : a = b <;> simp [h]
  have e0 : PyProof.Rows.lexLt itemOrd (keyToksAll []) (keyToksAll []) = false := by decide
  rw [dataLt_tuple, dataLt_cons (by rfl), dataLt_cons (by rfl), e, e, dataLt_int, dataLt_int, e0]
  unfold ltP
  by_cases h1 : p.1 = q.1 <;> by_cases h2 : p.2 = q.2 <;> simp [h1, h2]
theorem argBest_le (bt : Nat → Nat → Bool) : ∀ k, argBest bt k ≤ k
  | 0 => Nat.le_refl _
  | k + 1 => by
    have := argBest_le bt k
    unfold argBest
    split <;> omega
theorem argBest_congr {bt ct : Nat → Nat → Bool} : ∀ k, (∀ i j, i ≤ k → j ≤ k → bt i j = ct i j) → argBest bt k = argBest ct k
  | 0, _ => rfl
  | k + 1, h => by
    have ih := @argBest_congr bt ct k (fun i j hi hj => h i j (by omega) (by omega))
    have hl := argBest_le ct k
    unfold argBest
    rw [ih, h (k + 1) (argBest ct k) (Nat.le_refl _) (by omega)]
/-- the index of the first of the least -/
def minP (ps : List (Int × Int)) : Nat := argBest (fun i j => ltP (ps.getD i (0, 0)) (ps.getD j (0, 0))) (ps.length - 1)
theorem cr_minT (hc : X.calm = true) (hu : X.A.units + 64 < cLine) : CallR X (.builtin "min") (fun vs H Q => ∃ (a : Addr) (ys : List V) (ps : List (Int × Int)), vs = [V.ref a] ∧ SqL X.K H a ys ∧ DpAll X.K H ys (ps.map fun p => PyData.tuple [.int p.1, .int p.2]) ∧ 0 < ps.length ∧ ∀ (v : V), ys[minP ps]? = some v → Q v H) := by
  intro pins s σ H vs us Q I r h
  obtain ⟨a, ys, ps, rfl, hs, hd, hne, q⟩ := h
  obtain ⟨its, rv, hl, _⟩ := I.list hs
  rw [Vals.ref1 r]
  obtain ⟨as, hr⟩ := Dp.readsAll I _ ys its hd rv
  have hlen : its.length = ps.length := by
    have := readsAll_len (vs := its.toArray) (by simpa using hr)
    rw [List.size_toArray, List.length_map] at this
    exact this
  have hdep : PyData.depthAll (ps.map fun p => PyData.tuple [.int p.1, .int p.2]) ≤ 60 := by
    have : ∀ qs : List (Int × Int), PyData.depthAll (qs.map fun p => PyData.tuple [.int p.1, .int p.2]) ≤ 60 := fun qs => by
      induction qs with
      | nil => rw [List.map_nil]; decide
      | cons p t ih =>
        rw [List.map_cons]
        unfold PyData.depthAll
        refine Nat.max_le.mpr ⟨?_, ih⟩
        simp [PyData.depth, PyData.depthAll]
    exact this ps
  have hal : AlikeAll (ps.map fun p => PyData.tuple [.int p.1, .int p.2]) := by
    refine ⟨fun x hx y hy => ?_, fun x hx => ?_⟩
    · obtain ⟨p, _, rfl⟩ := List.mem_map.mp hx
      obtain ⟨p2, _, rfl⟩ := List.mem_map.mp hy
      rfl
    · obtain ⟨p, _, rfl⟩ := List.mem_map.mp hx
      intro h
      cases h
  refine call_min_walkH (iter_listW (A := X.A.in1) (I.ok.hd hc) hl.isList fun s₂ e W st hfp hw hk => ?_)
  refine ⟨_, _, _, _, _, _, _, s.heap, _, rfl, W, st, hfp, by simpa [hlen] using hne, hw, hk, cmpIn_lt (A := X.A.in1) (vs := its.toArray) (by simpa using hr) hal (by show X.A.units + 1 + _ < _; omega), fun v s' hP m => ?_⟩
  obtain ⟨h', tk, rfl, hk'⟩ := moved_old e rfl m
  have hP : its.toArray[argBest (fun i j => dataLt ((ps.map fun p => PyData.tuple [.int p.1, .int p.2]).getD i .none) ((ps.map fun p => PyData.tuple [.int p.1, .int p.2]).getD j .none)) (its.toArray.size - 1)]? = some v := hP
  have hcg : argBest (fun i j => dataLt ((ps.map fun p => PyData.tuple [.int p.1, .int p.2]).getD i .none) ((ps.map fun p => PyData.tuple [.int p.1, .int p.2]).getD j .none)) (its.toArray.size - 1) = minP ps := by
    have hz : its.toArray.size - 1 = ps.length - 1 := by rw [List.size_toArray, hlen]
    rw [hz]
    refine argBest_congr _ fun i j hi hj => ?_
    have h1 : i < ps.length := by omega
    have h2 : j < ps.length := by omega
    have e1 : (ps.map fun p => PyData.tuple [.int p.1, .int p.2]).getD i .none = .tuple [.int (ps.getD i (0, 0)).1, .int (ps.getD i (0, 0)).2] := by simp [h1]
    have e2 : (ps.map fun p => PyData.tuple [.int p.1, .int p.2]).getD j .none = .tuple [.int (ps.getD j (0, 0)).1, .int (ps.getD j (0, 0)).2] := by simp [h2]
    show dataLt _ _ = _
    rw [e1, e2, dataLt_pr]
  rw [hcg] at hP
  have hP : its[minP ps]? = some v := by simpa using hP
  have hvl := rv.length
  have hlt : minP ps < its.length := (List.getElem?_eq_some_iff.mp hP).1
  have hy : ys[minP ps]? = some ys[minP ps] := List.getElem?_eq_getElem (by omega)
  obtain ⟨u, hu2, ru⟩ := rv.get hy
  rw [hP] at hu2
  cases hu2
  exact ⟨_, H, I.kept hk', ru, q _ hy⟩
def fMinT : List D → OE
  | [.lst ds] => (match prsD ds with
    | some ps => if 0 < ps.length then (match ds[minP ps]? with
      | some d => .val d
      | none => .stuck) else .stuck
    | none => .stuck)
  | _ => .stuck
variable {a : Expr} {p pos : Pos} {mas : MA} {k : Nat}
theorem e_minT {rs : List Fr} (hc : X.calm = true) (hr : Room k X.A) (hg : Gl X "min") (hm : X.mg "min" = none) (ha : SA X W rs [a] mas) (he : starEach [a] X.env = (false, eval a X.env) :: starEach [] X.env := by rfl) : SE X W .z (.Call (.Name "min" p) [a] [] pos) (mCall fMinT mas) :=
  e_callB (cr_minT hc hr.units) (fun F H vs ds σ Q hF r hp => by
    cases r with
    | nil => exact hp.elim
    | cons h1 t =>
      cases t with
      | nil =>
        cases h1 <;> first | exact hp.elim | skip
        rename_i q vs ds h r
        simp only [fMinT] at hp
        cases hi : prsD ds with
        | none => rw [hi] at hp; exact hp.elim
        | some ps =>
          rw [hi] at hp
          by_cases hl : 0 < ps.length
          · simp only [hl, if_true] at hp
            cases hx : ds[minP ps]? with
            | none => rw [hx] at hp; exact hp.elim
            | some d =>
              rw [hx] at hp
              have hd := prsD_map hi
              have hok : okPs 8 ds = true := by
                rw [hd]
                have : ∀ qs : List (Int × Int), okPs 8 (qs.map dpr) = true := fun qs => by
                  induction qs with
                  | nil => rw [List.map_nil, okPs]
                  | cons p t ih =>
                    rw [List.map_cons, okPs, ih]
                    rfl
                exact this ps
              have hdp := r.dp hF hok
              rw [hd, toPys_prs] at hdp
              refine ⟨q, vs, ps, rfl, sq_of hF h, hdp, hl, fun v hv => ?_⟩
              obtain ⟨v2, hv2, rd⟩ := r.get hx
              rw [hv] at hv2
              cases hv2
              exact post_z hF hp rd
          · simp only [hl, if_false] at hp
            exact hp.elim
      | cons h2 t => cases h1 <;> exact hp.elim) hg hm (by decide +kernel) ha (he := he)
end
/-! what it is -/
theorem ltP_irrefl (p : Int × Int) : ltP p p = false := by
  unfold ltP
  simp
theorem ltP_trans {p q r : Int × Int} (h1 : ltP p q = true) (h2 : ltP r q = false) : ltP r p = false := by
  unfold ltP at *
  simp only [Bool.or_eq_true, Bool.and_eq_true, decide_eq_true_eq, Bool.or_eq_false_iff, Bool.and_eq_false_iff, decide_eq_false_iff_not] at *
  omega
theorem argBest_least (ps : List (Int × Int)) : ∀ k, k < ps.length → ∀ j, j ≤ k → ltP (ps.getD j (0, 0)) (ps.getD (argBest (fun i j => ltP (ps.getD i (0, 0)) (ps.getD j (0, 0))) k) (0, 0)) = false
  | 0, _, j, hj => by
    obtain rfl : j = 0 := by omega
    exact ltP_irrefl _
  | k + 1, hk, j, hj => by
    have ih := argBest_least ps k (by omega)
    unfold argBest
    by_cases h : ltP (ps.getD (k + 1) (0, 0)) (ps.getD (argBest (fun i j => ltP (ps.getD i (0, 0)) (ps.getD j (0, 0))) k) (0, 0)) = true
    · rw [if_pos h]
      by_cases hj2 : j = k + 1
      · subst hj2
        exact ltP_irrefl _
      · exact ltP_trans h (ih j (by omega))
    · rw [if_neg h]
      by_cases hj2 : j = k + 1
      · subst hj2
        simpa using h
      · exact ih j (by omega)
theorem fMinT_prs {ps : List (Int × Int)} (h : 0 < ps.length) : ∃ m, m ∈ ps ∧ fMinT [.lst (ps.map dpr)] = .val (dpr m) ∧ ∀ y ∈ ps, ltP y m = false := by
  have hlt : minP ps < ps.length := by
    have := argBest_le (fun i j => ltP (ps.getD i (0, 0)) (ps.getD j (0, 0))) (ps.length - 1)
    unfold minP
    omega
  refine ⟨ps[minP ps], List.getElem_mem hlt, ?_, fun y hy => ?_⟩
  · unfold fMinT
    dsimp only
    rw [prsD_prs]
    dsimp only
    rw [if_pos h, List.getElem?_map, List.getElem?_eq_getElem hlt]
    rfl
  · obtain ⟨j, hj, rfl⟩ := List.getElem_of_mem hy
    have := argBest_least ps (ps.length - 1) (by omega) j (by omega)
    rw [show ps.getD j (0, 0) = ps[j] by simp [hj]] at this
    have e : ps.getD (argBest (fun i j => ltP (ps.getD i (0, 0)) (ps.getD j (0, 0))) (ps.length - 1)) (0, 0) = ps[minP ps] := by
      show ps.getD (minP ps) (0, 0) = _
      simp [hlt]
    rw [e] at this
    exact this
end U

/-! U: xs.insert(i, e) -/
namespace U
open PySem L2
open Evl (Ex)
section
variable {X : Cx} {W : WX} {B : Hp} {R : Fr}
theorem RFs.ins {K : PySem.W.Frag} {F H : Hp} {r : Fr} {v : V} {d : D} {bs : List Addr} (q : RF K F H r v d bs) : ∀ (k : Nat) {n : Nat} {vs : List V} {ds : List D} {ws : List Addr}, RFs K F H (List.replicate n r) vs ds ws → ∃ xs, RFs K F H (List.replicate (n + 1) r) (vs.take k ++ [v] ++ vs.drop k) (ds.take k ++ [d] ++ ds.drop k) xs ∧ ∀ a, xs.count a ≤ ws.count a + bs.count a
  | 0, n, vs, ds, ws, h => ⟨bs ++ ws, .cons q h, fun a => by rw [List.count_append]; omega⟩
  | k + 1, 0, _, _, _, .nil => ⟨bs ++ [], .cons q .nil, fun a => by rw [List.count_append]; omega⟩
  | k + 1, n + 1, _, _, _, .cons (as := a1) (bs := b1) h t => by
    obtain ⟨xs, h1, h2⟩ := RFs.ins q k (n := n) t
    exact ⟨a1 ++ xs, .cons h h1, fun a => by have := h2 a; rw [List.count_append, List.count_append]; omega⟩
/-- the place, the index, the value -/
def mIns (b : Bool) (i : Nat) (mj : MA) (r : Fr) (mi me : ME) : MS := fun env => match mj (dOf env) with
  | .vals jd => (match intsD jd with
    | some js => (match cellAt env i js with
      | some (r', ds) => if frEq r' r = true then (match mi (dOf env) with
        | .val (.int k) => onE (me (vw b env)) env fun d => if 0 ≤ k ∧ k < 9223372036854775808 ∧ ds.length < 100000 then .next (putAt env i js (ds.take k.toNat ++ [d] ++ ds.drop k.toNat)) else .stuck
        | _ => .stuck) else .stuck
      | none => .stuck)
    | none => .stuck)
  | _ => .stuck
theorem s_ins (b : Bool) (i : Nat) {o ix e : Expr} {apos cpos pos : Pos} {mj : MA} {r ri : Fr} {mi me : ME} (ho : SP X W i o mj) (hi : SE X W ri ix mi) (he : SE X W r e me) (hb : b = true ∨ r.zf = true := by first | exact .inl rfl | exact .inr rfl)
    (hbase : attributeBase o "insert" X.env (eval o X.env) = eval o X.env := by rfl)
    (hfew : ((backTo cpos (starEach (ix :: [e]) X.env)).all (fun x => !x.1) && (backToKw cpos (keywordEach [] X.env)).all (fun x => x.1.isSome)
      && decide ((ix :: [e]).length + ([] : List Keyword).length + (if ([] : List Keyword).isEmpty then 0 else 1) < 30)) = true := by rfl)
    (hline : (apos.endLine == cpos.line) = true := by rfl) (hst : starEach (ix :: [e]) X.env = (false, eval ix X.env) :: starEach [e] X.env := by rfl) (hst2 : starEach (e :: []) X.env = (false, eval e X.env) :: starEach [] X.env := by rfl) (hplain : (backTo cpos (starEach [e] X.env)).any (·.1) = false := by rfl)
    (hs : swapsWith (.Call (.Attribute o "insert" apos) [ix, e] [] cpos) none pos.line X.env = pure false := by rfl) : SS X W B R (.Expr (.Call (.Attribute o "insert" apos) [ix, e] [] cpos) pos) (mIns b i mj r mi me) :=
  PS.weak (ps_expr (pe_bm PySem.F.plainAttrs_list PySem.F.slot_list_insert PySem.F.type_list_insert mt_insert ho (pa_cons hi (pa_cons he pa_nil hst2) hst) hbase hfew hline hst hplain) hs) fun D σ H ⟨F0, env, S, h⟩ => by
    obtain ⟨F, as, R0, S0⟩ := S
    show tPth X W i mj σ H _
    refine ⟨plus F H as, dOf env, plus_sub S0.fh, R0.dz fun a ha => (S0.own.fr a ha).2, ?_⟩
    unfold mIns at h
    cases hj : mj (dOf env) with
    | stuck => rw [hj] at h; exact h
    | err x => rw [hj] at h; exact h.elim
    | vals jd =>
      rw [hj] at h
      dsimp only at h
      cases hi2 : intsD jd with
      | none => rw [hi2] at h; exact h.elim
      | some js =>
        rw [hi2] at h
        dsimp only at h
        cases hc : cellAt env i js with
        | none => rw [hc] at h; exact h.elim
        | some p =>
          obtain ⟨r', ds⟩ := p
          rw [hc] at h
          dsimp only at h
          obtain ⟨x0, a, vs, ws, e1, e2, e3, e4, e5, e6, put⟩ := R0.cellAt S0.own S0.fh hc
          refine ⟨js, x0, .ref a, intsD_map hi2, e1, e2, fun H1 eH1 => ⟨.inl ⟨rfl, vs, SqL.of (eH1 _ _ e4)⟩, ?_⟩⟩
          by_cases hr : frEq r' r = true
          · rw [if_pos hr] at h
            cases frEq_eq hr
            have R1 : EnvR X.K F H1 σ env as := R0.mono (Ex.refl _) fun a _ o h => eH1 a o h
            refine ⟨plus F H1 as, dOf env, plus_sub (S0.fh.trans eH1), R1.dz fun a ha => (S0.own.fr a ha).2, ?_⟩
            cases hk : mi (dOf env) with
            | stuck => rw [hk] at h; exact h.elim
            | err x => rw [hk] at h; exact h.elim
            | val kd =>
              rw [hk] at h
              cases kd with
              | int k =>
                dsimp only at h
                intro y H2 F2 cs eH2 _ _ rfi _
                cases rf_int rfi
                have eA : Ex H H2 := eH1.trans eH2
                have R2 : EnvR X.K F H2 σ env as := R0.mono (Ex.refl _) fun a _ o h => eA a o h
                have S2 : Stt X.K B F0 F H2 as := ⟨S0.own, S0.bh.trans eA, S0.gr, S0.fh.trans eA⟩
                refine Stt.eval hb R2 S2 (fun z => ?_) (fun y hy H' S' C hC => ?_) fun d v H' F' bs hm eH eF R3 rf S3 nb => ?_
                · rw [z] at h; exact h
                · rw [hy] at h
                  exact h σ H' S' C hC
                · rw [hm] at h
                  dsimp only [onE] at h
                  by_cases hf : 0 ≤ k ∧ k < 9223372036854775808 ∧ ds.length < 100000
                  · rw [if_pos hf] at h
                    have nw : a ∉ ws := fun z => by
                      have q1 := e6 a
                      have q2 := S0.own.one a
                      rw [List.count_cons_self] at q1
                      have : 0 < ws.count a := List.count_pos_iff.mpr z
                      omega
                    have nbs : a ∉ bs := fun z => by
                      have := nb a z
                      rw [eA _ _ e4] at this
                      cases this
                    have hlen : vs.length = ds.length := e5.len.2
                    refine ⟨a, vs, k, v, rfl, rfl, eH _ _ (eA _ _ e4), Evl.sz_lt (by rw [hlen]; exact hf.2.2), hf.1, by have := hf.2.1; omega, ?_⟩
                    have rfs3 : RFs X.K F' (upd H' a (.lst (vs.take k.toNat ++ [v] ++ vs.drop k.toNat))) (List.replicate vs.length r) vs ds ws := ((e5.mono eF fun c hc u hu => eH c u (eA c u hu))).updN nw
                    have rf3 : RF X.K F' (upd H' a (.lst (vs.take k.toNat ++ [v] ++ vs.drop k.toNat))) r v d bs := rf.mono (Ex.refl _) fun c hc u hu => by
                      rw [upd_ne (by intro z; subst z; exact nbs hc)]
                      exact hu
                    obtain ⟨xs, g1, g2⟩ := RFs.ins rf3 k.toNat rfs3
                    have hl2 : (vs.take k.toNat ++ [v] ++ vs.drop k.toNat).length = vs.length + 1 := by
                      rw [List.length_append, List.length_append, List.length_take, List.length_drop, List.length_singleton]
                      omega
                    obtain ⟨cs2, c1, c2⟩ := put F' H' (vs.take k.toNat ++ [v] ++ vs.drop k.toNat) (ds.take k.toNat ++ [d] ++ ds.drop k.toNat) xs eF (eA.trans eH) (by rw [hl2]; exact g1)
                    exact h σ _ ⟨F', cs2, c1, S3.own.sub fun c => cnt_plus (c2 c) (g2 c), Evl.Ex.mut S3.bh (S3.own.fr a (by simp [e3])).1, S3.gr, Evl.Ex.mut S3.fh (S3.own.fr a (by simp [e3])).2⟩
                  · rw [if_neg hf] at h
                    exact h.elim
              | _ => exact h.elim
          · rw [if_neg hr] at h
            exact h.elim
end
end U

/-! U: a range of far bounds that has nothing in it -/
namespace U.LgR
open PySem L2 PySem.Spec PyProof.Rows
theorem own_ : Manifest.owners.lookup (String.ofList "longrange_iterator".toList.reverse.reverse) = some Manifest.sig_longrange_iterator := by kernel_rfl
theorem s_next : Slot "longrange_iterator" "__next__" "longrange_iterator.__next__" :=
  Slot.of (n := "__next__") (owner := "longrange_iterator") (by rw [typeLookup_type, builtinLookup_eq_fast]; kernel_rfl) (by decide +kernel) (by decide +kernel) (by decide +kernel) (by first | exact .inl (by decide +kernel) | exact .inr (by decide +kernel)) (by rw [isSubtype_type]; kernel_rfl)
theorem e_next : entryFor table "longrange_iterator.__next__" = some Builtin.«longrange_iterator.__next__» := entryFor_of_tree (by kernel_rfl)
theorem a_next (a : Value) : argsOk "longrange_iterator.__next__" ⟨[a], []⟩ := by
  unfold argsOk
  rw [signature?_of (n := "__next__".toList.reverse) (o := "longrange_iterator".toList.reverse) (id := "longrange_iterator.__next__") (by kernel_rfl) own_]
  kernel_rfl
theorem s_iter : Slot "longrange_iterator" "__iter__" "longrange_iterator.__iter__" :=
  Slot.of (n := "__iter__") (owner := "longrange_iterator") (by rw [typeLookup_type, builtinLookup_eq_fast]; kernel_rfl) (by decide +kernel) (by decide +kernel) (by decide +kernel) (by first | exact .inl (by decide +kernel) | exact .inr (by decide +kernel)) (by rw [isSubtype_type]; kernel_rfl)
theorem a_iter (a : Value) : argsOk "longrange_iterator.__iter__" ⟨[a], []⟩ := by
  unfold argsOk
  rw [signature?_of (n := "__iter__".toList.reverse) (o := "longrange_iterator".toList.reverse) (id := "longrange_iterator.__iter__") (by kernel_rfl) own_]
  kernel_rfl
theorem e_iter : entryFor table "longrange_iterator.__iter__" = some Builtin.«dict_keyiterator.__iter__» :=
  entryFor_alias (by kernel_rfl) (by first | rfl | decide +kernel | (unfold String.splitOn; simp +decide [String.splitOnAux])) (by decide +kernel) (by kernel_rfl) (id' := "dict_keyiterator.__iter__")
theorem b_next (a : Value) : bound "longrange_iterator.__next__" ⟨[a], []⟩ = pure #[some a] := by
  unfold bound
  rw [signature?_of (n := "__next__".toList.reverse) (o := "longrange_iterator".toList.reverse) (id := "longrange_iterator.__next__") (by kernel_rfl) own_]
  kernel_rfl
abbrev Lg (h : Heap) (it : Addr) (x c : Int) : Prop := h.get? it = some { cls := .type "longrange_iterator", dict := none, data := .fields #[rawInt x, rawInt 0, rawInt c], slots := #[] }
section
variable {prog : Program} {w : World} {A : Around} {E : Value → Shared → Prop} {s : Shared}
theorem iter_lg {it : Addr} {x c : Int} {Q : Value → Shared → Prop} (hit : Lg s.heap it x c) (h : Q (.ref it) s) : wpAny (model prog w) A (pyIter (.ref it)) Q E s := by
  have hT : s.TypeIs (.ref it) "longrange_iterator" := ⟨_, hit, rfl⟩
  refine wpAny_pyIter_slot hT s_iter (wpAny_call_entry s_iter hT e_iter ?_ (a_iter _))
  show wpAny _ _ (ret (.ref it)) _ _ s
  exact wpAny_pure ⟨_, rfl, "longrange_iterator", _, hT, s_next.lookup, h⟩
theorem made_lg {r : Addr} {a b c : Int} {t u v : Tok} {Q : Value → Shared → Prop} (hr : IsRange s.heap r a b c t u v) (hl : Builtin.Range.small a b c = false) (h0 : Builtin.Range.rangeSize a b c = 0)
    (hQ : Q (.ref s.heap.objs.size) { s with heap := s.heap.push { cls := .type "longrange_iterator", data := .fields #[rawInt a, rawInt 0, rawInt c] } }) :
    wpAny (model prog w) A (pyIter (.ref r)) Q E s := by
  have hT : s.TypeIs (.ref r) "range" := ⟨_, hr, rfl⟩
  refine wpAny_pyIter_slot hT F.slot_range_iter (wpAny_call_entry F.slot_range_iter hT F.entry_range_iter ?_ (F.args_range_iter_1 _))
  unfold Builtin.«range.__iter__» Builtin.Range.rangeFields
  obtain ⟨hp, g, d, tk, os⟩ := s
  wp_walk
  unfold Builtin.Range.small at hl
  rw [hl]
  rw [if_pos (show (!false) = true from rfl), if_neg (show ¬ (false = true) by decide), h0]
  refine wpAny_bind (wpAny_rule ?_)
  refine wpAny_bind ?_
  simp only [newFields]
  refine wpAny_newObj_type ?_ (by size_fits)
  exact wpAny_pure ⟨_, rfl, "longrange_iterator", _, ⟨_, Heap.get?_push_size _ rfl, rfl⟩, s_next.lookup, hQ⟩
theorem end_lg {it : Addr} {x c : Int} {Q : Option Value → Shared → Prop} (hh : A.handled = none) (hit : Lg s.heap it x c)
    (hQ : ∀ h', Heap.ExtBut it s.heap h' → Q none { s with heap := h' }) : wpAny (model prog w) A (pyNext (.ref it)) Q E s := by
  have hT : s.TypeIs (.ref it) "longrange_iterator" := ⟨_, hit, rfl⟩
  unfold pyNext
  refine wpAny_bind (wpAny_attempt (wpAny_callSpecial?_slot (name := Str.ofString "__next__") hT s_next (wpAny_call_entry s_next hT e_next ?_ (a_next _))))
  unfold Builtin.«longrange_iterator.__next__»
  dsimp only
  rw [b_next]
  refine wpAny_bind (wpAny_pure ?_)
  show wpAny _ _ (Builtin.Iterators_pickling.intField _ (.ref it) 0 >>= _) _ _ s
  unfold Builtin.Iterators_pickling.intField
  refine wpAny_bind (wpAny_bind (wpAny_field hit rfl (x := rawInt x) rfl ?_))
  refine wpAny_pure ?_
  refine wpAny_bind (wpAny_bind (wpAny_field hit rfl (x := rawInt 0) rfl ?_))
  refine wpAny_pure ?_
  refine wpAny_bind (wpAny_bind (wpAny_field hit rfl (x := rawInt c) rfl ?_))
  refine wpAny_pure ?_
  rw [if_pos (Int.le_refl 0)]
  refine wpAny_bind (wpAny_bind (wpAny_rule ?_))
  refine wpAny_pure ?_
  refine wpAny_bind ?_
  simp only [newExc, newTuple]
  refine wpAny_bind (wpAny_newObj_type ?_ (by size_fits))
  refine wpAny_bind (m := firstArgMember _ _) (wpAny_of_eq (a := Value.none) (by first | rfl | (simp only [firstArgMember]; rfl)) ?_)
  refine wpAny_newObj_type ?_ (by size_fits)
  simp only [raiseNew]
  refine wpAny_bind (wpAny_bind (wpAny_handled ?_))
  first | rw [show A.in1.handled = none from hh] | rw [hh]
  refine wpAny_bind (wpAny_pure (wpAny_throw ?_))
  refine wpAny_bind (wpAny_isInstance (b := true) (T := "StopIteration") ⟨_, Heap.get?_push_size _ rfl, rfl⟩ isSubtype_stop ?_)
  exact wpAny_pure (hQ _ (((Heap.ExtBut.refl it s.heap).push _).push _))
end
theorem turn_lg {P : Program} {w : World} {K : PySem.W.Frag} {tg : Expr} (it : Addr) (lo c : Int) : Turn P w K tg (Itc lo c 0) [it] it (fun _ h => Lg h it lo c) where
  mem := List.mem_singleton.mpr rfl
  obj := fun i h st b hb => by
    obtain rfl : b = it := by simpa using hb
    exact ⟨_, st, fun v z => nomatch z⟩
  keep := fun i h h' st k => k it (List.mem_singleton.mpr rfl) _ st
  item := by
    intro X hP hw hK hc i pins s σ H E I hf st hg
    exact absurd hg (Nat.not_lt_zero i)
  done := by
    intro X hP hw hK hc i pins s σ H E I hf st hg
    subst hP hw hK
    obtain ⟨g0, g1, g2, g3, g4, g5⟩ := hf it (List.mem_singleton.mpr rfl)
    exact end_lg (I.ok.hd hc) st fun h' eb => ⟨rfl, I.turned (t' := s.toks) (fun b o hb e => eb b o hb e) g0 g1 g3 g4 g5⟩
  self := fun A i s Q E st h => iter_lg st h
def iRngL (ta : TA) : TI := fun σ H R => ta σ H fun vs H1 => ∃ (i j c : Int), vs = [.int i, .int j, .int c] ∧ c ≠ 0 ∧ c.natAbs < 1073741824 ∧
  ((Builtin.Range.small i j c = false ∧ Builtin.Range.rangeSize i j c = 0 ∧ R (Itc i c 0) H1) ∨ (∃ n : Nat, RgC i j c n ∧ R (Itc i c n) H1))
theorem pi_rangeL {X : Cx} {tg a b c : Expr} {ta : TA} {p pos : Pos} (hg : Gl X "range") (hm : X.mg "range" = none) (ha : PA X [a, b, c] ta)
    (hs : starEach [a, b, c] X.env = (false, eval a X.env) :: starEach [b, c] X.env := by rfl) (hpl : (backTo pos (starEach [b, c] X.env)).any (·.1) = false := by rfl) :
    PI X tg (.Call (.Name "range" p) [a, b, c] [] pos) (iRngL ta) := by
  refine ⟨fun pins s σ H R I h => ?_⟩
  refine Call_ (ld_blt I hg hm boot_range (PyProof.Rows.callWith_type1 (thn (ha.run pos pins s σ H _ I h) fun us s1 ⟨vs, H1, I1, r1, q1⟩ => ?_) hs hpl))
  obtain ⟨i, j, k, e, c0, c1, q⟩ := q1
  subst e
  cases r1 with
  | cons r rr =>
    cases rr with
    | cons r' rr =>
      cases rr with
      | cons r'' rr =>
        cases rr
        obtain ⟨t, rfl⟩ := r
        obtain ⟨t', rfl⟩ := r'
        obtain ⟨t'', rfl⟩ := r''
        refine call_range_3 c0 ?_ (.inl (PyProof.noPylong_small c1))
        have I2 : Inv X pins σ H1 { s1 with heap := s1.heap.push { cls := .type "range", data := .fields #[.int i t, .int j t', .int k t''] } } := I1.kept (t' := s1.toks) fun b o e => Heap.get?_push_of_some _ e
        rcases q with ⟨c2, c3, q⟩ | ⟨n, ⟨_, _, c2, c3⟩, q⟩
        · refine made_lg (IsRange.new ..) c2 c3 ?_
          exact pi_one (tk := s1.toks) I2 _ (turn_lg _ i k) (Heap.get?_push_size _ rfl) q
        · refine wpAny_pyIter_range (IsRange.new ..) c2 ?_
          refine pi_one (tk := s1.toks) I2 _ (turn_rangeC _ i k n) ?_ q
          have e1 : i + ((0 : Nat) : Int) * k = i := by simp
          have e2 : (n : Int) - ((0 : Nat) : Int) = Builtin.Range.rangeSize i j k := by rw [c3]; simp
          show IsRangeIter _ _ (i + ((0 : Nat) : Int) * k) ((n : Int) - ((0 : Nat) : Int)) k
          rw [e2, e1]
          exact Heap.get?_push_size _ rfl
end U.LgR
namespace U
open PySem L2 PySem.Spec PyProof.Rows
def fRngL : List D → OI
  | [.int i, .int j, .int c] => if c ≠ 0 ∧ c.natAbs < 1073741824 ∧ Builtin.Range.small i j c = true ∧ Builtin.Range.rangeSize i j c = ((Builtin.Range.rangeSize i j c).toNat : Int) then .items (rng3 i c (Builtin.Range.rangeSize i j c).toNat)
    else if c ≠ 0 ∧ c.natAbs < 1073741824 ∧ Builtin.Range.small i j c = false ∧ Builtin.Range.rangeSize i j c = 0 then .items [] else .stuck
  | _ => .stuck
section
variable {X : Cx} {W : WX} {tg a b c : Expr} {p pos : Pos} {r1 r2 r3 : Fr} {ma : MA}
theorem si_rangeL (hg : Gl X "range") (hm : X.mg "range" = none) (ha : SA X W [r1, r2, r3] [a, b, c] ma) (hs : starEach [a, b, c] X.env = (false, eval a X.env) :: starEach [b, c] X.env := by rfl) (hpl : (backTo pos (starEach [b, c] X.env)).any (·.1) = false := by rfl) : SI X W true tg (.Call (.Name "range" p) [a, b, c] [] pos) (mIter fRngL ma) :=
  PI.weak (LgR.pi_rangeL hg hm ha hs hpl) fun σ H R ⟨F, ev, hF, hz, hp⟩ => seqI hF hz hp fun ds vs H' F' as hm e g f hr o q => by
    cases hr with
    | cons h t =>
      cases t with
      | cons h2 t2 =>
        cases t2 with
        | cons h3 t3 =>
          cases t3 with
          | nil =>
            rename_i d1 _ _ d2 _ _ d3 _
            cases d1 <;> first | exact q.elim | skip
            cases d2 <;> first | exact q.elim | skip
            cases d3 <;> first | exact q.elim | skip
            rename_i i j k
            rw [rf_int h, rf_int h2, rf_int h3]
            by_cases hc : k ≠ 0 ∧ k.natAbs < 1073741824 ∧ Builtin.Range.small i j k = true ∧ Builtin.Range.rangeSize i j k = ((Builtin.Range.rangeSize i j k).toNat : Int)
            · simp only [fRngL, if_pos hc] at q
              exact ⟨i, j, k, rfl, hc.1, hc.2.1, .inr ⟨_, ⟨hc.1, hc.2.1, hc.2.2.1, hc.2.2.2⟩, q _ _ _ e g f fun as _ => iter_rng3⟩⟩
            · by_cases hd : k ≠ 0 ∧ k.natAbs < 1073741824 ∧ Builtin.Range.small i j k = false ∧ Builtin.Range.rangeSize i j k = 0
              · simp only [fRngL, if_neg hc, if_pos hd] at q
                exact ⟨i, j, k, rfl, hd.1, hd.2.1, .inl ⟨hd.2.2.1, hd.2.2.2, q _ _ _ e g f fun as _ => iter_rng3 (lo := i) (c := k) (n := 0)⟩⟩
              · simp only [fRngL, if_neg hc, if_neg hd] at q
                exact q.elim
end
end U

/-! U: sorted of tuples of whole numbers -/
namespace U
open PySem PySem.Spec PyProof.Rows L2 PySem.W
open Evl (Ex)
def tupI (ns : List Int) : D := .tup (ns.map .int)
def tupsD : List D → Option (List (List Int))
  | [] => some []
  | .tup (.int a :: xs) :: ds => (match intsD xs, tupsD ds with
    | some ns, some r => some ((a :: ns) :: r)
    | _, _ => none)
  | _ :: _ => none
theorem tupsD_map : ∀ {ds : List D} {nss : List (List Int)}, tupsD ds = some nss → ds = nss.map tupI ∧ ∀ x ∈ nss, x ≠ []
  | [], nss, h => by
    rw [tupsD] at h
    cases h
    exact ⟨rfl, fun x hx => by simp at hx⟩
  | d :: ds, nss, h => by
    unfold tupsD at h
    split at h
    · rename_i h1; cases h1
    · rename_i a xs ds' h1
      cases h1
      split at h
      · rename_i ns r h2 h3
        cases h
        obtain ⟨e1, e2⟩ := tupsD_map h3
        refine ⟨?_, fun x hx => ?_⟩
        · rw [e1, List.map_cons]
          unfold tupI
          rw [List.map_cons, ← intsD_map h2]
        · rcases List.mem_cons.mp hx with rfl | hx
          · simp
          · exact e2 x hx
      · cases h
    · cases h
theorem intsD_mapT : ∀ ns : List Int, intsD (ns.map D.int) = some ns
  | [] => rfl
  | a :: r => by rw [List.map_cons, intsD, intsD_mapT r]
theorem tupsD_tups : ∀ {nss : List (List Int)}, (∀ x ∈ nss, x ≠ []) → tupsD (nss.map tupI) = some nss
  | [], _ => rfl
  | [] :: r, h => absurd rfl (h [] (by simp))
  | (a :: x) :: r, h => by
    rw [List.map_cons]
    unfold tupI
    rw [List.map_cons, tupsD, intsD_mapT]
    have := tupsD_tups (nss := r) fun y hy => h y (by simp [hy])
    unfold tupI at this
    rw [this]
def leI (a b : List Int) : Bool := !decide (b < a)
def fSortT : List D → OE
  | [.lst ds] => (match tupsD ds with
    | some nss => .val (.lst ((nss.mergeSort leI).map tupI))
    | none => .stuck)
  | _ => .stuck
def encT (ns : List Int) : PyData := .tuple (ns.map .int)
theorem toPy_tupI (ns : List Int) : toPy (tupI ns) = encT ns := by
  unfold tupI encT
  rw [toPy]
  congr 1
  induction ns with
  | nil => rfl
  | cons a t ih =>
    rw [List.map_cons, toPy.toPys, ih]
    rfl
theorem toPys_tups : ∀ nss : List (List Int), toPy.toPys (nss.map tupI) = nss.map encT
  | [] => rfl
  | a :: r => by rw [List.map_cons, toPy.toPys, toPy_tupI, toPys_tups r]; rfl
theorem dataLe_tups : dataLe false encT = leI := by
  funext a b
  show (!dataLt (encT b) (encT a)) = leI a b
  unfold encT leI
  rw [dataLt_tuple]
  exact congrArg _ (dataLt_ints b a)
theorem alike_ints : ∀ xs ys : List Int, alikeAll (xs.map .int) (ys.map .int) = true
  | [], _ => by rw [List.map_nil, alikeAll]
  | _ :: _, [] => by rw [List.map_cons, List.map_nil, alikeAll]
  | x :: xs, y :: ys => by rw [List.map_cons, List.map_cons, alikeAll, alike_ints xs ys]; simp [alike]
theorem depth_intsT : ∀ xs : List Int, PyData.depthAll (xs.map .int) ≤ 1
  | [] => by rw [List.map_nil]; simp [PyData.depthAll]
  | x :: xs => by
    rw [List.map_cons]
    unfold PyData.depthAll
    exact Nat.max_le.mpr ⟨by simp [PyData.depth], depth_intsT xs⟩
theorem okP_tups {k : Nat} : ∀ nss : List (List Int), okPs (k + 1) (nss.map tupI) = true
  | [] => by rw [List.map_nil, okPs]
  | a :: r => by
    rw [List.map_cons, okPs, okP_tups r]
    have : okP (k + 1) (tupI a) = true := by
      unfold tupI
      rw [okP]
      exact okPs_intsU a
    rw [this]
    rfl
where
  okPs_intsU {k : Nat} : ∀ ns : List Int, okPs k (ns.map D.int) = true
    | [] => by rw [List.map_nil, okPs]
    | a :: r => by rw [List.map_cons, okPs, okPs_intsU r]; cases k <;> rfl
section
variable {X : Cx} {W : WX}
theorem each_rep {K : PySem.W.Frag} {F : Hp} : ∀ {xs : List V} {its : List Value} {nss : List (List Int)}, Vals xs its → RepL K F xs (nss.map tupI) → EachIs (fun v b => ∃ x : V, RelV x v ∧ Rep K F x (tupI b)) its nss
  | _, _, [], rv, r => by
    cases r
    cases rv
    exact .nil
  | _, _, b :: nss, rv, r => by
    rw [List.map_cons] at r
    cases r with
    | cons h t =>
      cases rv with
      | cons h2 t2 => exact .cons ⟨_, h2, h⟩ (each_rep t2 t)
theorem each_back {K : PySem.W.Frag} {F : Hp} : ∀ {its : List Value} {nss : List (List Int)}, EachIs (fun v b => ∃ x : V, RelV x v ∧ Rep K F x (tupI b)) its nss → ∃ xs, Vals xs its ∧ RepL K F xs (nss.map tupI)
  | _, _, .nil => ⟨[], .nil, .nil⟩
  | _, _, .cons ⟨x, h1, h2⟩ t => by
    obtain ⟨xs, h3, h4⟩ := each_back t
    exact ⟨x :: xs, .cons h1 h3, .cons h2 h4⟩
theorem cr_sortTs (hc : X.calm = true) (hu : X.A.units + 64 < cLine) : CallR X (.builtin "sorted") (fun vs H Q => ∃ (a : Addr) (ys : List V) (nss : List (List Int)) (F : Hp), vs = [V.ref a] ∧ SqL X.K H a ys ∧ DpAll X.K H ys (nss.map encT) ∧ RepL X.K F ys (nss.map tupI) ∧ (∀ x ∈ nss, x ≠ []) ∧ ∀ (ys' : List V) (p : Addr), RepL X.K F ys' ((nss.mergeSort leI).map tupI) → H p = none → Q (.ref p) (upd H p (.lst ys'))) := by
  intro pins s σ H vs us Q I r h
  obtain ⟨a, ys, nss, F, rfl, hs, hd, hF, hne, q⟩ := h
  obtain ⟨its, rv, hl, hz⟩ := I.list hs
  rw [Vals.ref1 r]
  obtain ⟨as, hr⟩ := Dp.readsAll I _ ys its hd rv
  have hlen : its.length = nss.length := by
    have := readsAll_len (vs := its.toArray) (by simpa using hr)
    rw [List.size_toArray, List.length_map] at this
    exact this
  have hL : nss.length ≤ sizeLine := by
    rw [← hlen, ← rv.length]
    exact hz
  refine sorted_data (enc := encT) (bs := nss) hl.isList (each_rep rv hF) (readsAll_each encT hr) (AllAlike.of fun x y => ?_) ?_ hL (fun b hb => ?_) fun out ho eo => ?_
  · unfold encT
    rw [alike]
    exact alike_ints x y
  · refine .inl fun d hd => ?_
    obtain ⟨x, hx, rfl⟩ := List.mem_map.mp hd
    cases x with
    | nil => exact absurd rfl (hne [] hx)
    | cons y t => exact ⟨_, _, rfl⟩
  · have := depth_intsT b
    unfold encT
    have hd : (PyData.tuple (b.map .int)).depth = 1 + PyData.depthAll (b.map .int) := by simp [PyData.depth]; omega
    rw [hd]
    omega
  · rw [dataLe_tups] at eo
    obtain ⟨xs, h1, h2⟩ := each_back eo
    obtain ⟨n, hn⟩ := sortedAll_at s.heap its out.toArray
    refine ⟨.ref _, upd H (s.heap.objs.size + 1) (.lst xs), I.laid (t' := s.toks) (fun b o e => sortedAll_old e) (Nat.le_succ _) ⟨?_, out, n, h1, hn⟩, rfl, q _ _ h2 (I.hok.fresh (Nat.le_succ _))⟩
    rw [h1.length, ho]
    exact hL
theorem e_sortT {a : Expr} {p pos : Pos} {k : Nat} {rs : List Fr} {mas : MA} (hc : X.calm = true) (hr : Room k X.A) (hg : Gl X "sorted") (hm : X.mg "sorted" = none) (ha : SA X W rs [a] mas) (he : starEach [a] X.env = (false, eval a X.env) :: starEach [] X.env := by rfl) : SE X W (.l .z) (.Call (.Name "sorted" p) [a] [] pos) (mCall fSortT mas) :=
  e_callB (cr_sortTs hc hr.units) (fun F H vs ds σ Q hF r hp => by
    cases r with
    | nil => exact hp.elim
    | cons h1 t =>
      cases t with
      | nil =>
        cases h1 <;> first | exact hp.elim | skip
        rename_i q vs ds h r
        have hp : Post X W σ Q F H (.l .z) (match tupsD ds with
          | some nss => .val (.lst ((nss.mergeSort leI).map tupI))
          | none => .stuck) := hp
        cases hi : tupsD ds with
        | none => rw [hi] at hp; exact hp.elim
        | some nss =>
          rw [hi] at hp
          obtain ⟨hd, hne⟩ := tupsD_map hi
          have hdp := r.dp hF (n := 8) (by rw [hd]; exact okP_tups (k := 7) nss)
          rw [hd, toPys_tups] at hdp
          rw [hd] at r
          exact ⟨q, vs, nss, F, rfl, sq_of hF h, hdp, r, hne, fun ys' p' h2 h3 => post_newL hF hp h2 h3⟩
      | cons h2 t => cases h1 <;> exact hp.elim) hg hm (by decide +kernel) ha (he := he)
/-! ### len(set(xs)), xs a list of tuples of whole numbers, no two alike -/
def tLenSetT (K : PySem.W.Frag) (ta : TE) : TE := fun σ H Q => ta σ H fun x H1 => ∃ (l : Addr) (ks : List (Addr × List Int)), x = V.ref l ∧ SqL K H1 l (ks.map fun p => V.ref p.1) ∧ (∀ p ∈ ks, SqT K H1 p.1 (p.2.map V.int)) ∧ ks.length < 64 ∧ (ks.map (·.2)).Nodup ∧ Q (.int ks.length) H1
theorem nodup_len {α : Type} : ∀ {l m : List α}, l.Nodup → m.Nodup → (∀ x ∈ l, x ∈ m) → (∀ x ∈ m, x ∈ l) → l.length = m.length := fun h1 h2 a b => ((List.perm_ext_iff_of_nodup h1 h2).mpr fun x => ⟨a x, b x⟩).length_eq
theorem pe_lenSetT {a : Expr} {ta : TE} {p p2 q pos : Pos} (hc : X.calm = true) (hu : X.A.units + 64 < cLine) (hg : Gl X "len") (hm : X.mg "len" = none) (hg2 : Gl X "set") (hm2 : X.mg "set" = none) (ha : PE X a ta)
    (na : starEach [a] X.env = (false, eval a X.env) :: starEach [] X.env := by rfl) : PE X (.Call (.Name "len" p) [.Call (.Name "set" p2) [a] [] q] [] pos) (tLenSetT X.K ta) := by
  refine ⟨fun pins s σ H Q I h => ?_⟩
  refine Call_ (ld_blt I hg hm PySem.boot_len ?_)
  refine PyProof.Rows.callWith_builtin1 (PyProof.Rows.args_cons ?_ rfl) rfl rfl
  refine Call_ (ld_blt I hg2 hm2 PyProof.Rows.boot_set ?_)
  refine PyProof.Rows.callWith_type1 (PyProof.Rows.args_cons (thn (ha.run pins s σ H _ I h) fun v s1 ⟨x, H1, I1, r1, q1⟩ => PyProof.Rows.args_nil ?_) na) na rfl
  obtain ⟨l, ks, rfl, hq, hk, hf, hnd, q1⟩ := q1
  cases r1
  obtain ⟨its, rv, pl, hz⟩ := I1.list hq
  refine call_set_tups (P := X.prog) (w := X.w) ks (I1.ok.hd hc) pl.isList (by simpa using refs_of_vals rv) (fun p hp => I1.isT (hk p hp)) hf (by omega) fun h' tk L es ep t R g k => ?_
  refine PyProof.Rows.args_nil ?_
  have hL : L.length = ks.length := by
    have h1 : (L.map (·.2)).length = (ks.map (·.2)).length := by
      refine nodup_len R.nd hnd (fun y hy => ?_) fun y hy => ?_
      · obtain ⟨p, hp, rfl⟩ := List.mem_map.mp hy
        exact List.mem_map.mpr ⟨p, List.mem_of_mem_take (g.sub p hp), rfl⟩
      · obtain ⟨p, hp, rfl⟩ := List.mem_map.mp hy
        exact g.all p (by rw [List.take_length]; exact hp)
    simpa using h1
  have hes : es.size = ks.length := by
    have := congrArg List.length R.rows
    unfold L2.rowsOf at this
    rw [List.length_map, hL] at this
    simpa using this
  obtain ⟨o, ho, hex, hd⟩ := R.ob
  have hfit : t.fits es.size = true := SetTR.fits (s := { s1 with heap := h', toks := tk }) R
  have I2 : Inv X pins σ H1 { s1 with heap := h', toks := tk } := I1.kept k
  exact call_len_set ho hex hd hfit (by rw [hes]; omega) ⟨.int ks.length, H1, I2.tok _, ⟨_, by rw [hes]⟩, q1⟩
theorem RepL.tups {K : PySem.W.Frag} {F : Hp} : ∀ {nss : List (List Int)} {vs : List V}, RepL K F vs (nss.map tupI) → ∃ ks : List (Addr × List Int), vs = (ks.map fun p => V.ref p.1) ∧ ks.map (·.2) = nss ∧ ∀ p ∈ ks, SqT K F p.1 (p.2.map V.int)
  | [], vs, r => by
    cases r
    exact ⟨[], rfl, rfl, fun p hp => by simp at hp⟩
  | ns :: nss, vs, r => by
    rw [List.map_cons] at r
    cases r with
    | cons h t =>
      obtain ⟨ks, e1, e2, e3⟩ := RepL.tups t
      unfold tupI at h
      cases h with
      | tup h r2 =>
        rename_i a ws
        have e := r2.ints rfl
        subst e
        refine ⟨(a, ns) :: ks, by rw [e1]; rfl, by rw [List.map_cons, e2], fun p hp => ?_⟩
        rcases List.mem_cons.mp hp with rfl | hp
        · exact h
        · exact e3 p hp
def fLenSetT : D → OE
  | .lst ds => (match tupsD ds with
    | some nss => if nss.length < 64 ∧ nss.Nodup then .val (.int nss.length) else .stuck
    | none => .stuck)
  | _ => .stuck
theorem e_lenSetT {a : Expr} {p p2 q pos : Pos} {k : Nat} {ra : Fr} {ma : ME} (hc : X.calm = true) (hr : Room k X.A) (hg : Gl X "len") (hm : X.mg "len" = none) (hg2 : Gl X "set") (hm2 : X.mg "set" = none) (ha : SE X W ra a ma)
    (na : starEach [a] X.env = (false, eval a X.env) :: starEach [] X.env := by rfl) : SE X W .n (.Call (.Name "len" p) [.Call (.Name "set" p2) [a] [] q] [] pos) (m1 fLenSetT ma) :=
  PE.weak (pe_lenSetT hc hr.units hg hm hg2 hm2 ha.toZ na) fun σ H Q ⟨F, ev, hF, hz, hp⟩ => seqE hF hz hp fun dx v H1 F1 _ e1 g1 f1 r1 z1 p1 => by
    cases r1 <;> first | exact p1.elim | skip
    rename_i l vs ds h r hme
    have p1 : Post X W σ Q F1 H1 .n (match tupsD ds with
      | some nss => if nss.length < 64 ∧ nss.Nodup then .val (.int nss.length) else .stuck
      | none => .stuck) := p1
    cases hi : tupsD ds with
    | none => rw [hi] at p1; exact p1.elim
    | some nss =>
      rw [hi] at p1
      by_cases hl : nss.length < 64 ∧ nss.Nodup
      · simp only [if_pos hl] at p1
        obtain ⟨hd, _⟩ := tupsD_map hi
        rw [hd] at r
        obtain ⟨ks, e1, e2, e3⟩ := r.tups
        have hlen : ks.length = nss.length := by rw [← e2, List.length_map]
        refine ⟨l, ks, rfl, by rw [← e1]; exact sq_of f1 h, fun p hp => Evl.ex_t f1 (e3 p hp), by omega, by rw [e2]; exact hl.2, ?_⟩
        rw [hlen]
        exact post_int f1 p1
      · simp only [if_neg hl] at p1
        exact p1.elim
end
end U

/-! U: dicts by whole numbers and texts: d[k], k in d, d.get, d[k] = v, {k: v} -/
namespace U
open PySem PySem.Spec PyProof.Rows L2
open Evl (Ex)
def keyD : D → Option Key
  | .int i => some (.inl i)
  | .str s => some (.inr s)
  | _ => none
def valD (kds : List (Key × D)) (k : Key) : Option D := (kds.find? fun kv => decide (kv.1 = k)).map (·.2)
def putD (kds : List (Key × D)) (k : Key) (d : D) : List (Key × D) :=
  if (kds.any fun kv => decide (kv.1 = k)) = true then kds.map (fun kv => if kv.1 = k then (kv.1, d) else kv) else kds ++ [(k, d)]
section
variable {K : PySem.W.Frag} {F : Hp}
theorem Rep.key {v : V} {d : D} {k : Key} (h : Rep K F v d) (hk : keyD d = some k) : v = kV k := by
  cases h <;> first | (cases hk; rfl) | cases hk
theorem RepK.any {k : Key} : ∀ {kvs : List (Key × V)} {kds : List (Key × D)}, RepK K F kvs kds → (kvs.any fun kv => decide (kv.1 = k)) = (kds.any fun kv => decide (kv.1 = k))
  | _, _, .nil => rfl
  | _, _, .cons h t => by rw [List.any_cons, List.any_cons, RepK.any t]
theorem RepK.val {k : Key} : ∀ {kvs : List (Key × V)} {kds : List (Key × D)}, RepK K F kvs kds → (∃ v d, valV kvs k = some v ∧ valD kds k = some d ∧ Rep K F v d) ∨ (valV kvs k = none ∧ valD kds k = none)
  | _, _, .nil => .inr ⟨rfl, rfl⟩
  | (k', v) :: kvs, (_, d) :: kds, .cons h t => by
    unfold valV valD
    rw [List.find?_cons, List.find?_cons]
    by_cases e : k' = k
    · simp only [decide_eq_true e]
      exact .inl ⟨v, d, rfl, rfl, h⟩
    · simp only [decide_eq_false e]
      exact RepK.val t
theorem RepK.set {k : Key} {v : V} {d : D} (hv : Rep K F v d) : ∀ {kvs : List (Key × V)} {kds : List (Key × D)}, RepK K F kvs kds → RepK K F (kvs.map fun kv => if kv.1 = k then (kv.1, v) else kv) (kds.map fun kv => if kv.1 = k then (kv.1, d) else kv)
  | _, _, .nil => .nil
  | (k', w) :: kvs, (_, e) :: kds, .cons h t => by
    rw [List.map_cons, List.map_cons]
    by_cases e : k' = k
    · simp only [if_pos e]
      exact .cons hv (RepK.set hv t)
    · simp only [if_neg e]
      exact .cons h (RepK.set hv t)
theorem RepK.snoc {k : Key} {v : V} {d : D} (hv : Rep K F v d) : ∀ {kvs : List (Key × V)} {kds : List (Key × D)}, RepK K F kvs kds → RepK K F (kvs ++ [(k, v)]) (kds ++ [(k, d)])
  | _, _, .nil => .cons hv .nil
  | _, _, .cons h t => .cons h (RepK.snoc hv t)
theorem RepK.put {k : Key} {v : V} {d : D} (hv : Rep K F v d) {kvs : List (Key × V)} {kds : List (Key × D)} (h : RepK K F kvs kds) : RepK K F (putK kvs k v) (putD kds k d) := by
  unfold putK putD
  rw [← h.any]
  split
  · exact h.set hv
  · exact h.snoc hv
theorem RepK.len : ∀ {kvs : List (Key × V)} {kds : List (Key × D)}, RepK K F kvs kds → kvs.length = kds.length
  | _, _, .nil => rfl
  | _, _, .cons _ t => by rw [List.length_cons, List.length_cons, RepK.len t]
end
section
variable {X : Cx} {W : WX}
def fDget : D → D → OE := fun x y => match x, keyD y with
  | .dct kds, some k => (match valD kds k with
    | some d => .val d
    | none => .stuck)
  | _, _ => .stuck
def fDin (neg : Bool) : D → D → OE := fun y x => match x, keyD y with
  | .dct kds, some k => .val (.bl (if neg = true then !(valD kds k).isSome else (valD kds k).isSome))
  | _, _ => .stuck
theorem dg_of {F H : Hp} {a : Addr} {kvs : List (Key × V)} {y : V} {dy : D} {k : Key} (hF : Ex F H) (h : F a = some (.dK kvs)) (ry : Rep X.K F y dy) (hk : keyD dy = some k) : DGet H a y (valV kvs k) := by
  rw [ry.key hk]
  exact DGet.k (hF _ _ h)
theorem e_dget {o i : Expr} {pos : Pos} {k : Nat} {ra rb : Fr} {mo mi : ME} (hr : Room k X.A) (ho : SE X W ra o mo) (hi : SE X W rb i mi) (hs : NoSl i := by intro _ _; rfl) : SE X W .z (.Subscript o i pos) (m2 fDget mo mi) :=
  PE.weak (pe_dget (by have := hr.units; omega) ho.toZ hi.toZ hs) fun σ H Q ⟨F, ev, hF, hz, hp⟩ => seqE hF hz hp fun dx x H1 F1 _ e1 g1 f1 r1 z1 p1 => seqE f1 z1 p1 fun dy y H2 F2 _ e2 g2 f2 r2 z2 p2 => by
    cases hk : keyD dy with
    | none => cases r1 <;> (simp only [fDget, hk] at p2; exact p2.elim)
    | some k =>
      cases r1 <;> first | (simp only [fDget, hk] at p2; exact p2.elim) | skip
      rename_i a kvs kds h r hm
      simp only [fDget, hk] at p2
      rcases (r.mono g2.ex).val (k := k) with ⟨v, d, q1, q2, q3⟩ | ⟨_, q2⟩
      · rw [q2] at p2
        have := dg_of (X := X) f2 (g2.ex _ _ h) r2 hk
        rw [q1] at this
        exact ⟨a, v, rfl, this, post_z f2 p2 q3⟩
      · rw [q2] at p2
        exact p2.elim
def rDin (neg : Bool) : R2 := fun y x H Q => ∃ a o, x = .ref a ∧ DGet H a y o ∧ Q (.bl (if neg = true then !o.isSome else o.isSome)) H
theorem op_dIn (hu : X.A.units + 64 < cLine) : OpR X (compareOp .In) (rDin false) := by
  intro pins s σ H y x v u Q I ry rx h
  obtain ⟨a, o, rfl, g, q⟩ := h
  obtain rfl : u = Value.ref a := rx
  exact d_in (by omega) I g ry fun s3 I3 => ⟨.bl o.isSome, H, I3, rfl, q⟩
theorem op_dNi (hu : X.A.units + 64 < cLine) : OpR X (compareOp .NotIn) (rDin true) := by
  intro pins s σ H y x v u Q I ry rx h
  obtain ⟨a, o, rfl, g, q⟩ := h
  obtain rfl : u = Value.ref a := rx
  exact d_notIn (by omega) I g ry fun s3 I3 => ⟨.bl (!o.isSome), H, I3, rfl, q⟩
theorem opD_dIn (neg : Bool) : OpD X W .n (rDin neg) (fDin neg) := fun F H y x dy dx σ Q hF ry rx hp => by
  cases hk : keyD dy with
  | none => cases rx <;> (simp only [fDin, hk] at hp; exact hp.elim)
  | some k =>
    cases rx <;> first | (simp only [fDin, hk] at hp; exact hp.elim) | skip
    rename_i a kvs kds h r
    simp only [fDin, hk] at hp
    refine ⟨a, valV kvs k, rfl, dg_of hF h ry hk, ?_⟩
    have e : (valV kvs k).isSome = (valD kds k).isSome := by
      rcases r.val (k := k) with ⟨v, d, q1, q2, _⟩ | ⟨q1, q2⟩
      · rw [q1, q2]; rfl
      · rw [q1, q2]; rfl
    rw [e]
    exact post_bl hF hp
section
variable {a b : Expr} {pos : Pos} {k : Nat} {ra rb : Fr} {ma mb : ME}
theorem e_dIn (hr : Room k X.A) (ha : SE X W ra a ma) (hb : SE X W rb b mb) (hm : behindInMarks .In b = false := by with_unfolding_all rfl) : SE X W .n (.Compare a [.In] [b] pos) (m2 (fDin false) ma mb) := e_cmp (op_dIn hr.units) (opD_dIn false) ha hb hm
theorem e_dNi (hr : Room k X.A) (ha : SE X W ra a ma) (hb : SE X W rb b mb) (hm : behindInMarks .NotIn b = false := by with_unfolding_all rfl) : SE X W .n (.Compare a [.NotIn] [b] pos) (m2 (fDin true) ma mb) := e_cmp (op_dNi hr.units) (opD_dIn true) ha hb hm
theorem st_dIn (hr : Room k X.A) (ha : SE X W ra a ma) (hb : SE X W rb b mb) (hm : behindInMarks .In b = false := by with_unfolding_all rfl) : ST X W (.Compare a [.In] [b] pos) (m2 (fDin false) ma mb) := st_cmp (op_dIn hr.units) (opD_dIn false) ha hb hm
theorem st_dNi (hr : Room k X.A) (ha : SE X W ra a ma) (hb : SE X W rb b mb) (hm : behindInMarks .NotIn b = false := by with_unfolding_all rfl) : ST X W (.Compare a [.NotIn] [b] pos) (m2 (fDin true) ma mb) := st_cmp (op_dNi hr.units) (opD_dIn true) ha hb hm
end
/-! ### d.get(k), d.get(k, e) -/
def dgK (x y z : D) : OE := match x, keyD y with
  | .dct kds, some k => (match valD kds k with
    | some d => .val d
    | none => .val z)
  | _, _ => .stuck
def isDct : D → Bool
  | .dct _ => true
  | _ => false
def mDget2 (mo mi me : ME) : ME := fun ev => bindE (mo ev) fun x => if isDct x = true then bindE (mi ev) fun y => bindE (me ev) fun z => dgK x y z else .stuck
def mDget1 (mo mi : ME) : ME := fun ev => bindE (mo ev) fun x => if isDct x = true then bindE (mi ev) fun y => dgK x y .non else .stuck
section
variable {o e f : Expr} {apos cpos : Pos} {k : Nat} {ra rb rc : Fr} {mo mi me : ME}
theorem e_dget2 (hr : Room k X.A) (ho : SE X W ra o mo) (he : SE X W rb e mi) (hf : SE X W rc f me) (m : M2 X o "get" apos e f cpos := by exact ⟨rfl, rfl, rfl, rfl⟩) : SE X W .z (.Call (.Attribute o "get" apos) [e, f] [] cpos) (mDget2 mo mi me) :=
  PE.weak (pe_dget2 (by have := hr.units; omega) ho.toZ he.toZ hf.toZ m) fun σ H Q ⟨F, ev, hF, hz, hp⟩ => seqE hF hz hp fun dx x H1 F1 hmx e1 g1 f1 r1 z1 p1 => by
    cases r1 <;> first | exact p1.elim | skip
    rename_i a kvs kds h r
    rw [if_pos (show isDct (.dct kds) = true from rfl)] at p1
    refine ⟨a, rfl, .inl ⟨kvs, .inl (f1 _ _ h)⟩, ?_⟩
    refine seqE f1 z1 p1 fun dy y H2 F2 _ e2 g2 f2 r2 z2 p2 => seqE f2 z2 p2 fun dz z H3 F3 _ e3 g3 f3 r3 z3 p3 => ?_
    cases hk : keyD dy with
    | none => simp only [dgK, hk] at p3; exact p3.elim
    | some k =>
      simp only [dgK, hk] at p3
      refine ⟨valV kvs k, dg_of f3 (g3.ex _ _ (g2.ex _ _ h)) (r2.mono g3.ex) hk, ?_⟩
      rcases ((r.mono g2.ex).mono g3.ex).val (k := k) with ⟨v, d, q1, q2, q3⟩ | ⟨q1, q2⟩
      · rw [q2] at p3
        rw [q1]
        exact post_z f3 p3 q3
      · rw [q2] at p3
        rw [q1]
        exact post_z f3 p3 r3
theorem e_dget1 (hr : Room k X.A) (ho : SE X W ra o mo) (he : SE X W rb e mi) (m : M1 X o "get" apos e cpos := by exact ⟨rfl, rfl, rfl, rfl⟩) : SE X W .z (.Call (.Attribute o "get" apos) [e] [] cpos) (mDget1 mo mi) :=
  PE.weak (pe_dget1 (by have := hr.units; omega) ho.toZ he.toZ m) fun σ H Q ⟨F, ev, hF, hz, hp⟩ => seqE hF hz hp fun dx x H1 F1 hmx e1 g1 f1 r1 z1 p1 => by
    cases r1 <;> first | exact p1.elim | skip
    rename_i a kvs kds h r
    rw [if_pos (show isDct (.dct kds) = true from rfl)] at p1
    refine ⟨a, rfl, .inl ⟨kvs, .inl (f1 _ _ h)⟩, ?_⟩
    refine seqE f1 z1 p1 fun dy y H2 F2 _ e2 g2 f2 r2 z2 p2 => ?_
    cases hk : keyD dy with
    | none => simp only [dgK, hk] at p2; exact p2.elim
    | some k =>
      simp only [dgK, hk] at p2
      refine ⟨valV kvs k, dg_of f2 (g2.ex _ _ h) r2 hk, ?_⟩
      rcases (r.mono g2.ex).val (k := k) with ⟨v, d, q1, q2, q3⟩ | ⟨q1, q2⟩
      · rw [q2] at p2
        rw [q1]
        exact post_z f2 p2 q3
      · rw [q2] at p2
        rw [q1]
        exact post_z f2 p2 .non
end
/-! ### {k: v} -/
def fDone : D → D → OE := fun x y => match keyD x with
  | some k => .val (.dct [(k, y)])
  | none => .stuck
theorem e_d1x {a b : Expr} {pos : Pos} {ra rb : Fr} {ma mb : ME} (ha : SE X W ra a ma) (hb : SE X W rb b mb) : SE X W .k (.Dict [some a] [b] pos) (m2 fDone ma mb) :=
  PE.weak (pe_disp (trs := [(tE X W .z ma, tE X W .z mb)]) (pps_cons ha.toZ hb.toZ pps_nil) rfl rfl (by simp) (by simp)) fun σ H Q ⟨F, ev, hF, hz, hp⟩ => fun q hq => by
    have nw : Ex H (upd H q (.dK [])) := Evl.Ex.new hq
    have hp : Post X W σ Q F H .k (bindE (ma ev) fun x => bindE (mb ev) fun y => fDone x y) := hp
    show tE X W .z ma σ (upd H q (.dK [])) _
    refine ⟨F, ev, hF.trans nw, hz, ?_⟩
    cases hma : ma ev with
    | stuck => rw [hma] at hp; exact hp
    | err x => rw [hma] at hp; exact fun H' e' => hp H' (nw.trans e')
    | val dx =>
      rw [hma] at hp
      have hp : Post X W σ Q F H .k (bindE (mb ev) fun y => fDone dx y) := hp
      intro v1 H1 F1 as e1 g1 f1 rf1 o1
      cases rf1 with
      | z r1 =>
        refine ⟨F1, ev, f1, hz.mono g1.ex, ?_⟩
        cases hmb : mb ev with
        | stuck => rw [hmb] at hp; exact hp
        | err x => rw [hmb] at hp; exact fun H' e' => hp H' ((nw.trans e1).trans e')
        | val dy =>
          rw [hmb] at hp
          have hp : Post X W σ Q F H .k (fDone dx dy) := hp
          intro v2 H2 F2 as2 e2 g2 f2 rf2 o2
          cases rf2 with
          | z r2 =>
            show H2 q = _ ∧ _
            have hq2 : H2 q = some (.dK []) := e2 _ _ (e1 _ _ upd_same)
            cases hk : keyD dx with
            | none => unfold fDone at hp; rw [hk] at hp; exact hp.elim
            | some k =>
              unfold fDone at hp
              rw [hk] at hp
              have hkv := r1.key hk
              refine ⟨hq2, [(k, v2)], by rw [hkv]; rfl, by simp, ?_⟩
              have hFq : F q = none := ex_none hF hq
              have n1 : F1 q = none := by
                cases h : F1 q with
                | none => rfl
                | some u =>
                  have := g1.new q hFq (by rw [h]; simp)
                  rw [upd_same] at this
                  cases this
              have n2 : F2 q = none := by
                cases h : F2 q with
                | none => rfl
                | some u =>
                  have := g2.new q n1 (by rw [h]; simp)
                  rw [e1 _ _ upd_same] at this
                  cases this
              have gg : Gr H F F2 := (g1.base nw).trans g2 (nw.trans e1)
              have eH : Ex H (upd H2 q (.dK [(k, v2)])) := fun a o h => by
                have hne : a ≠ q := fun z => by rw [z, hq] at h; cases h
                rw [upd_ne hne]
                exact e2 _ _ (e1 _ _ (by rw [upd_ne hne]; exact h))
              have eF : Ex F2 (upd H2 q (.dK [(k, v2)])) := fun a o h => by
                have hne : a ≠ q := fun z => by rw [z, n2] at h; cases h
                rw [upd_ne hne]
                exact f2 _ _ h
              exact hp (.ref q) _ F2 [q] eH gg eF (.k upd_same (.cons r2 .nil)) ⟨fun a => by rw [List.count_singleton]; split <;> omega, fun a ha => by
                have e : a = q := by simpa using ha
                rw [e]
                exact ⟨hq, n2⟩⟩
/-! ### x[k] = e, x a dict of the frame's own -/
def mDPut (b : Bool) (i : Nat) (mi me : ME) : MS := fun env => onE (me (vw b env)) env fun d => match env[i]? with
  | some (some (.k, .dct kds)) => (match mi (dOf env) with
    | .val y => (match keyD y with
      | some k => if kds.length < 100000 then .next (env.set i (some (.k, .dct (putD kds k d)))) else .stuck
      | none => .stuck)
    | _ => .stuck)
  | _ => .stuck
theorem s_dput {B : Hp} {R : Fr} (b : Bool) (i : Nat) {o : Str} {ix e : Expr} {opos tpos pos : Pos} {kk : Nat} {r ri : Fr} {mi me : ME} (hu : Room kk X.A) (hN : X.N[i]? = some o) (hv : Vis X.env.scope o) (hi : SE X W ri ix mi) (he : SE X W r e me) (hb : b = true ∨ r.zf = true := by first | exact .inl rfl | exact .inr rfl)
    (hs : swapsWith e (some (.Subscript (.Name o opos) ix tpos)) pos.line X.env = pure false := by rfl) (hd : (o == ("__debug__" : Str)) = false := by decide) (hcd : (o == ("__classdict__" : Str)) = false := by decide) :
    SS X W B R (.Assign [.Subscript (.Name o opos) ix tpos] e pos) (mDPut b i mi me) :=
  PS.weak (ps_dput (by have := hu.units; omega) (pe_var hN hv hd hcd) hi.toZ he hs) fun D σ H ⟨F0, env, S, h⟩ => by
    obtain ⟨F, as, R0, S0⟩ := S
    unfold mDPut at h
    show tE X W r me σ H _
    refine Stt.eval hb R0 S0 (fun z => ?_) (fun y hy H' S' C hC => ?_) fun d v H' F' bs hm eH eF R2 rf S2 nb => ?_
    · rw [z] at h; exact h
    · rw [hy] at h
      exact h σ H' S' C hC
    · rw [hm] at h
      dsimp only [onE] at h
      have Sa : Own B F' as := S2.own.sub fun a => by rw [List.count_append]; omega
      cases he : env[i]? with
      | none => rw [he] at h; exact h.elim
      | some p =>
        cases p with
        | none => rw [he] at h; exact h.elim
        | some p =>
          obtain ⟨r0, d0⟩ := p
          rw [he] at h
          obtain ⟨x0, ws, e1, e2, e3, put⟩ := R2.hole he Sa.one
          cases r0 <;> first | exact h.elim | skip
          cases d0 <;> first | exact h.elim | skip
          rename_i kds
          dsimp only at h
          cases e2 with
          | @k a kvs _ hd hr =>
          refine ⟨.ref a, e1, ?_⟩
          -- the new value is laid to the rest
          have hb0 : ∀ a ∈ bs, F' a = none := fun a ha => (S2.own.fr a (by simp [ha])).2
          have rv : Rep X.K (plus F' H' bs) v d := rf.frozen (plus_ex hb0) fun a ha u hu => by unfold plus; rw [if_pos ha]; exact hu
          have onB : Own B F' bs := S2.own.sub fun a => by rw [List.count_append]; omega
          have gP : Gr B F' (plus F' H' bs) := ⟨plus_ex hb0, fun x h1 h2 => by
            unfold plus at h2
            split at h2
            · rename_i hm
              exact (onB.fr x hm).1
            · exact absurd h1 h2⟩
          have fP : Ex (plus F' H' bs) H' := plus_sub S2.fh
          have oP : Own B (plus F' H' bs) as := ⟨fun x => by have := S2.own.one x; rw [List.count_append] at this; omega, fun x hx => ⟨(Sa.fr x hx).1, by
            unfold plus
            split
            · rename_i hm
              have q2 := S2.own.one x
              rw [List.count_append] at q2
              have h1 : 0 < as.count x := List.count_pos_iff.mpr hx
              have h2 : 0 < bs.count x := List.count_pos_iff.mpr hm
              omega
            · exact (Sa.fr x hx).2⟩⟩
          have RP : EnvR X.K (plus F' H' bs) H' σ env as := R2.mono (plus_ex hb0) fun a _ o h => h
          show tE X W .z mi σ H' _
          refine ⟨plus (plus F' H' bs) H' as, dOf env, plus_sub fP, RP.dz fun a ha => (oP.fr a ha).2, ?_⟩
          cases hk : mi (dOf env) with
          | stuck => rw [hk] at h; exact h.elim
          | err x => rw [hk] at h; exact h.elim
          | val kd =>
            rw [hk] at h
            dsimp only at h
            cases hkk : keyD kd with
            | none => rw [hkk] at h; exact h.elim
            | some k =>
              rw [hkk] at h
              dsimp only at h
              split at h
              · rename_i hl
                intro y H3 F3 cs eH3 g3 f3 rfi o3
                cases rfi with
                | z ri =>
                  have ey := ri.key hkk
                  have hd3 : H3 a = some (.dK kvs) := eH3 _ _ hd
                  have hla : a ∈ as := List.count_pos_iff.mp (by have := e3 a; rw [List.count_singleton_self] at this; omega)
                  refine ⟨a, _, rfl, by rw [ey]; exact DPut.k hd3 (Evl.sz_lt (by rw [hr.len]; exact hl)), ?_⟩
                  have hrp : RepK X.K (plus F' H' bs) (putK kvs k v) (putD kds k d) := (hr.mono (plus_ex hb0)).put rv
                  obtain ⟨cs2, c1, c2⟩ := put (plus F' H' bs) (upd H3 a (.dK (putK kvs k v))) (.dct (putD kds k d)) [a] (plus_ex hb0) (fun b hb hn o ho => by
                    rw [upd_ne (fun z => hn (by rw [z]; simp))]
                    exact eH3 _ _ ho) (.k upd_same hrp)
                  exact h σ _ ⟨plus F' H' bs, cs2, c1, oP.sub fun c => by have := c2 c; omega, Evl.Ex.mut (S2.bh.trans eH3) (Sa.fr a hla).1, S2.gr.trans gP (Ex.refl _), Evl.Ex.mut (fP.trans eH3) (oP.fr a hla).2⟩
              · exact h.elim
end
end U

/-! U: y = x[..], a list within what is the frame's own, read (not changed) by the very next statement, a change of x -/
namespace U
open PySem L2
open Evl (Ex)
section
variable {X : Cx} {W : WX} {B F0 : Hp} {R : Fr}
theorem EnvR.skipSet {K : PySem.W.Frag} {F H : Hp} {σ : L2.St} {env : Env} {as : List Addr} (h : EnvR K F H σ env as) (v : Option V) : ∀ {k : Nat}, env[k]? = some none → EnvR K F H (σ.set k v) env as := by
  induction h with
  | nil => intro k hk; simp at hk
  | @skip s σ e as t ih =>
    intro k hk
    cases k with
    | zero => exact .skip t
    | succ k => exact .skip (ih (by simpa using hk))
  | @slot u σ r0 d0 e as1 as2 q t ih =>
    intro k hk
    cases k with
    | zero => simp at hk
    | succ k => exact .slot q (ih (by simpa using hk))
/-- what is new in it is laid open; ev the values that are known -/
theorem Stt.evalG {r : Fr} {me : ME} {σ : L2.St} {F H : Hp} {env : Env} {ev : Ev} {as : List Addr} {Q : VK} (hzf : r.zf = true) (R : EnvR X.K F H σ env as) (S : Stt X.K B F0 F H as) (hz : EnvZ X.K (plus F H as) σ ev) {d0 : D} (hd : me ev = .val d0)
    (k : ∀ v H' F' bs, Ex H H' → Ex F F' → EnvR X.K F' H' σ env as → RF X.K F' H' r v d0 bs → Stt X.K B F0 F' H' (as ++ bs) → (∀ a ∈ bs, H a = none) → Q v H') : tE X W r me σ H Q := by
  have hc := R.cell
  have hn : ∀ a ∈ as, F a = none := fun a ha => (S.own.fr a ha).2
  refine ⟨plus F H as, ev, plus_sub S.fh, hz, ?_⟩
  rw [hd]
  intro v H' F1 bs e g f rf o
  have pin : ∀ a ∈ as, ∃ o, F1 a = some o ∧ Cell o := fun a ha => by
    obtain ⟨o', ho', c⟩ := hc a ha
    exact ⟨o', g.ex a o' (by unfold plus; rw [if_pos ha]; exact ho'), c⟩
  have ff : Ex F (U.less F1 as) := fun a u hu => by
    have na : a ∉ as := fun ha => by
      rw [hn a ha] at hu
      cases hu
    unfold U.less
    rw [if_neg na]
    exact g.ex a u (by unfold plus; rw [if_neg na]; exact hu)
  have gg : Gr H F (U.less F1 as) := ⟨ff, fun a h1 h2 => by
    unfold U.less at h2
    split at h2
    · exact absurd rfl h2
    · rename_i na
      exact g.new a (by unfold plus; rw [if_neg na]; exact h1) h2⟩
  have rf' := rf.less pin hzf
  refine k v H' (U.less F1 as) bs e ff (R.mono ff fun a _ o h => e a o h) rf' ⟨⟨fun a => ?_, fun a ha => ?_⟩, S.bh.trans e, S.gr.trans gg S.bh, fun a u hu => ?_⟩ fun a ha => (o.fr a ha).1
  · rw [List.count_append]
    have h1 := S.own.one a
    have h2 := o.one a
    by_cases ha : a ∈ as
    · obtain ⟨o', ho', _⟩ := hc a ha
      have : bs.count a = 0 := List.count_eq_zero.mpr fun hb => by
        rw [(o.fr a hb).1] at ho'
        cases ho'
      omega
    · have : as.count a = 0 := List.count_eq_zero.mpr ha
      omega
  · rcases List.mem_append.mp ha with ha | ha
    · exact ⟨(S.own.fr a ha).1, by unfold U.less; rw [if_pos ha]⟩
    · refine ⟨ex_none S.bh (o.fr a ha).1, ?_⟩
      unfold U.less
      split
      · rfl
      · exact (o.fr a ha).2
  · unfold U.less at hu
    split at hu
    · cases hu
    · exact f a u hu
def mMutG (ev : Ev) (i : Nat) (mj : MA) (r : Fr) (me : ME) (f : List D → D → Option (List D)) : MS := fun env => match mj (dOf env) with
  | .vals jd => (match intsD jd with
    | some js => (match cellAt env i js with
      | some (r', ds) => if frEq r' r = true then (match me ev with
        | .val d => (match f ds d with
          | some ds' => .next (putAt env i js ds')
          | none => .stuck)
        | _ => .stuck) else .stuck
      | none => .stuck)
    | none => .stuck)
  | _ => .stuck
theorem Stt.mutG {i : Nat} {mj : MA} {r re : Fr} {me : ME} {f : List D → D → Option (List D)} {D : Ends} {σ : L2.St} {F H : Hp} {env : Env} {as : List Addr} {ev : Ev} {Q : V → V → Hp → Prop} (hzf : re.zf = true) (R0 : EnvR X.K F H σ env as) (S0 : Stt X.K B F0 F H as) (hz : EnvZ X.K (plus F H as) σ ev) (h : EndS X W B F0 R D (mMutG ev i mj r me f env))
    (k : ∀ a v d vs ds ds' ws bs (F' H' : Hp), H' a = some (.lst vs) → RFs X.K F' H' (List.replicate vs.length r) vs ds ws → RF X.K F' H' re v d bs → f ds d = some ds' → (∀ c ∈ bs, c ≠ a) → a ∉ ws → Ex F' H' →
      (∀ vs' xs, RFs X.K F' (upd H' a (.lst vs')) (List.replicate vs'.length r) vs' ds' xs → (∀ c, xs.count c ≤ ws.count c + bs.count c) → D.nx σ (upd H' a (.lst vs'))) → Q (.ref a) v H') :
    tPth X W i mj σ H fun x H1 => tyV X.K "list" x H1 ∧ tE X W re me σ H1 fun y H2 => Q x y H2 := by
  refine ⟨plus F H as, dOf env, plus_sub S0.fh, R0.dz fun a ha => (S0.own.fr a ha).2, ?_⟩
  unfold mMutG at h
  cases hj : mj (dOf env) with
  | stuck => rw [hj] at h; exact h
  | err x => rw [hj] at h; exact h.elim
  | vals jd =>
    rw [hj] at h
    dsimp only at h
    cases hi : intsD jd with
    | none => rw [hi] at h; exact h.elim
    | some js =>
      rw [hi] at h
      dsimp only at h
      cases hc : cellAt env i js with
      | none => rw [hc] at h; exact h.elim
      | some p =>
        obtain ⟨r', ds⟩ := p
        obtain ⟨x0, a, vs, ws, e1, e2, e3, e4, e5, e6, put⟩ := R0.cellAt S0.own S0.fh hc
        refine ⟨js, x0, .ref a, intsD_map hi, e1, e2, fun H1 eH1 => ⟨.inl ⟨rfl, vs, SqL.of (eH1 _ _ e4)⟩, ?_⟩⟩
        have R1 : EnvR X.K F H1 σ env as := R0.mono (Ex.refl _) fun a _ o h => eH1 a o h
        have S1 : Stt X.K B F0 F H1 as := ⟨S0.own, S0.bh.trans eH1, S0.gr, S0.fh.trans eH1⟩
        have hz1 : EnvZ X.K (plus F H1 as) σ ev := by
          have ep : plus F H1 as = plus F H as := by
            funext b
            unfold plus
            split
            · rename_i hb
              obtain ⟨o, ho, _⟩ := R0.cell b hb
              rw [ho, eH1 _ _ ho]
            · rfl
          rw [ep]
          exact hz
        rw [hc] at h
        dsimp only at h
        by_cases hr : frEq r' r = true
        · rw [if_pos hr] at h
          cases frEq_eq hr
          cases hm : me ev with
          | stuck => rw [hm] at h; exact h.elim
          | err y => rw [hm] at h; exact h.elim
          | val d =>
            rw [hm] at h
            dsimp only at h
            cases hf : f ds d with
            | none => rw [hf] at h; exact h.elim
            | some ds' =>
              rw [hf] at h
              refine Stt.evalG hzf R1 S1 hz1 hm fun v H' F' bs eH eF R2 rf S2 nb => ?_
              have nw : a ∉ ws := fun z => by
                have q1 := e6 a
                have q2 := S0.own.one a
                rw [List.count_cons_self] at q1
                have : 0 < ws.count a := List.count_pos_iff.mpr z
                omega
              refine k a v d vs ds ds' ws bs F' H' (eH _ _ (eH1 _ _ e4)) (e5.mono eF fun c hc u hu => eH c u (eH1 c u hu)) rf hf (fun c hcb z => ?_) nw S2.fh fun vs' xs q hq => ?_
              · have := nb c hcb
                rw [z, eH1 _ _ e4] at this
                cases this
              · obtain ⟨cs, c1, c2⟩ := put F' H' vs' ds' xs eF (eH1.trans eH) q
                refine h σ _ ⟨F', cs, c1, S2.own.sub fun c => cnt_plus (c2 c) (hq c), Evl.Ex.mut S2.bh (S2.own.fr a (by simp [e3])).1, S2.gr, Evl.Ex.mut S2.fh (S2.own.fr a (by simp [e3])).2⟩
        · rw [if_neg hr] at h
          exact h.elim
/-- y = x[..]; x.append(e), e reads y -/
def mLookApp (i k : Nat) (mj mj2 : MA) (r : Fr) (me : ME) (mrest : MS) : MS := fun env => match mj (dOf env) with
  | .vals jd => (match intsD jd with
    | some js => (match env[i]?, env[k]? with
      | some (some (r0, d0)), some none => (match dig d0 js, digF 0 r0 js with
        | some d, some _ => bindS (mMutG ((dOf env).set k (some d)) i mj2 r me fApp env) mrest
        | _, _ => .stuck)
      | _, _ => .stuck)
    | none => .stuck)
  | _ => .stuck
theorem EnvZ.setV {K : PySem.W.Frag} {F : Hp} {σ : L2.St} {ev : Ev} {k : Nat} {v : V} {d : D} (h : EnvZ K F σ ev) (hk : k < ev.length) (r : Rep K F v d) : EnvZ K F (σ.set k (some v)) (ev.set k (some d)) := by
  have lk : ∀ (e : Ev) (j i : Nat), look (e.set j (some d)) i = if i = j ∧ j < e.length then some d else look e i := by
    intro e
    induction e with
    | nil => intro j i; simp [look]
    | cons x t ih =>
      intro j i
      cases j with
      | zero => cases i <;> simp [look]
      | succ j =>
        cases i with
        | zero => simp [look]
        | succ i => simp [look, ih j i]
  refine ⟨by rw [List.length_set, List.length_set]; exact h.len, fun i d' hl => ?_⟩
  rw [lk] at hl
  split at hl
  · rename_i hi
    obtain ⟨rfl, _⟩ := hi
    cases hl
    have := h.len
    exact ⟨v, by rw [List.getElem?_set_self (by omega)], r⟩
  · rename_i hi
    obtain ⟨u, h1, h2⟩ := h.at_ i d' hl
    exact ⟨u, by rw [List.getElem?_set_ne (fun z => hi ⟨z.symm, hk⟩)]; exact h1, h2⟩
theorem s_lookApp (k i : Nat) {x : Str} {o o2 e : Expr} {rest : List Stmt} {apos cpos pos pos2 pos' : Pos} {mj mj2 : MA} {r : Fr} {me : ME} {mrest : MS} (hN : X.N.Nodup) (hk : X.N[k]? = some x) (hx : Loc X.env.scope x) (ho : SP X W i o mj) (ho2 : SP X W i o2 mj2) (he : SE X W r e me) (hzf : r.zf = true) (hb : SSs X W B R rest mrest)
    (hs : swapsWith o (some (.Name x pos')) pos.line X.env = pure false := by rfl) (hf : X.fn x = true ∨ X.env.scope.names.lookup x = some .local := by first | exact .inl rfl | exact .inr rfl | assumption)
    (hbase : attributeBase o2 "append" X.env (eval o2 X.env) = eval o2 X.env := by rfl)
    (hfew : ((backTo cpos (starEach (e :: []) X.env)).all (fun x => !x.1) && (backToKw cpos (keywordEach [] X.env)).all (fun x => x.1.isSome)
      && decide ((e :: []).length + ([] : List Keyword).length + (if ([] : List Keyword).isEmpty then 0 else 1) < 30)) = true := by rfl)
    (hline : (apos.endLine == cpos.line) = true := by rfl) (hst : starEach (e :: []) X.env = (false, eval e X.env) :: starEach [] X.env := by rfl) (hplain : (backTo cpos (starEach [] X.env)).any (·.1) = false := by rfl)
    (hs2 : swapsWith (.Call (.Attribute o2 "append" apos) [e] [] cpos) none pos2.line X.env = pure false := by rfl) :
    SSs X W B R (.Assign [.Name x pos'] o pos :: .Expr (.Call (.Attribute o2 "append" apos) [e] [] cpos) pos2 :: rest) (mLookApp i k mj mj2 r me mrest) := by
  refine PSs.weak (pss_cons (ps_set hN hk hx ho hs hf) (pss_cons (ps_expr (pe_bm PySem.F.plainAttrs_list PySem.F.slot_list_append PySem.F.type_list_append mt_append ho2 (pa_cons he pa_nil hst) hbase hfew hline hst hplain) hs2) hb)) fun D σ H ⟨F0, env, S, h⟩ => ?_
  unfold mLookApp at h
  cases hj : mj (dOf env) with
  | stuck => rw [hj] at h; exact h.elim
  | err c => rw [hj] at h; exact h.elim
  | vals jd =>
    rw [hj] at h
    dsimp only at h
    cases hi : intsD jd with
    | none => rw [hi] at h; exact h.elim
    | some js =>
      rw [hi] at h
      dsimp only at h
      cases hei : env[i]? with
      | none => rw [hei] at h; exact h.elim
      | some p =>
        cases p with
        | none => rw [hei] at h; exact h.elim
        | some p =>
          obtain ⟨r0, d0⟩ := p
          cases hek : env[k]? with
          | none => rw [hei, hek] at h; exact h.elim
          | some q =>
            cases q with
            | some _ => rw [hei, hek] at h; exact h.elim
            | none =>
              rw [hei, hek] at h
              dsimp only at h
              cases hd : dig d0 js with
              | none => rw [hd] at h; exact h.elim
              | some d1 =>
                rw [hd] at h
                cases hr : digF 0 r0 js with
                | none => rw [hr] at h; exact h.elim
                | some r1 =>
                  rw [hr] at h
                  dsimp only at h
                  obtain ⟨F, as, R0, S0⟩ := S
                  have hn : ∀ a ∈ as, F a = none := fun a ha => (S0.own.fr a ha).2
                  obtain ⟨x0, bs, e1, e2, e3, _⟩ := R0.hole hei S0.own.one
                  obtain ⟨v, as1, g1, g2⟩ := RF.dig (G := H) S0.fh e2 (fun b => Nat.le_trans (e3 b) (S0.own.one b)) (fun _ _ _ h => h) hd hr
                  have rv : Rep X.K (plus F H as) v d1 := g2.sub.frozen (plus_ex hn) fun a ha u hu => by
                    unfold plus
                    rw [if_pos (mem_of_count (e3 a) (mem_of_count (g2.le a) ha))]
                    exact hu
                  refine ⟨H, dOf env, Ex.refl _, (R0.dz hn).mono (plus_sub S0.fh), ?_⟩
                  rw [hj]
                  refine ⟨js, x0, v, intsD_map hi, e1, g1, fun H1 eH => ?_⟩
                  have R1 : EnvR X.K F H1 (σ.set k (some v)) env as := (R0.mono (H' := H1) (Ex.refl _) fun a _ o h => eH a o h).skipSet (some v) hek
                  have S1 : Stt X.K B F0 F H1 as := ⟨S0.own, S0.bh.trans eH, S0.gr, S0.fh.trans eH⟩
                  have ep : plus F H1 as = plus F H as := by
                    funext b
                    unfold plus
                    split
                    · rename_i hb
                      obtain ⟨o, ho, _⟩ := R0.cell b hb
                      rw [ho, eH _ _ ho]
                    · rfl
                  have hz : EnvZ X.K (plus F H1 as) (σ.set k (some v)) ((dOf env).set k (some d1)) := by
                    rw [ep]
                    exact (R0.dz hn).setV (by rw [dOf_len]; exact (List.getElem?_eq_some_iff.mp hek).1) rv
                  refine Stt.mutG hzf R1 S1 hz (EndS.seq h) fun a v d vs ds ds' ws bs F' H' ha rfs rf hf hne nw hF k => ?_
                  unfold fApp at hf
                  split at hf
                  · rename_i hl
                    cases hf
                    refine ⟨a, vs, v, rfl, rfl, ha, Evl.sz_lt (by rw [rfs.len.2]; exact hl), k _ (ws ++ bs) ?_ fun c => by rw [List.count_append]; omega⟩
                    rw [List.length_append, List.length_singleton]
                    have q := rfs.snoc rf
                    refine q.mono (Ex.refl _) fun c hc u hu => ?_
                    rw [upd_ne (fun z => ?_)]
                    · exact hu
                    · rcases List.mem_append.mp hc with hc | hc
                      · exact nw (z ▸ hc)
                      · exact hne c hc z
                  · cases hf
end
end U

namespace U
open PySem L2
section
variable {mc me ma mb mx ml mh : ME} {sa sb : MS} {env : Env} {ev : Ev} {d x y : D} {o : OE} {b c : Bool} {i j : Int} {c1 : Str}
/-! ### mirrors, applied -/
theorem vw_t : vw true env = hOf env := id rfl
theorem vw_f : vw false env = dOf env := id rfl
def brS (o : OE) (env : Env) (sa sb : MS) : OS := match o with
  | .val (.bl true) => sa env
  | .val (.bl false) => sb env
  | .err x => .err x env
  | _ => .stuck
theorem mIf_ap : mIf mc sa sb env = brS (mc (dOf env)) env sa sb := id rfl
theorem brS_t : brS (.val (.bl true)) env sa sb = sa env := id rfl
theorem brS_f : brS (.val (.bl false)) env sa sb = sb env := id rfl
theorem brS_e : brS (.err c1) env sa sb = .err c1 env := id rfl
theorem brS_b : brS (.val (.bl b)) env sa sb = if b = true then sa env else sb env := by cases b <;> rfl
theorem mSeq_ap : mSeq sa sb env = bindS (sa env) sb := id rfl
theorem bindS_n {e : Env} : bindS (.next e) sb = sb e := id rfl
theorem bindS_r : bindS (.ret d) sb = .ret d := id rfl
theorem bindS_b {e : Env} : bindS (.brk e) sb = .brk e := id rfl
theorem bindS_c {e : Env} : bindS (.cont e) sb = .cont e := id rfl
theorem bindS_e {e : Env} : bindS (.err c1 e) sb = .err c1 e := id rfl
theorem bindS_i {p : Prop} [Decidable p] {o1 o2 : OS} : bindS (if p then o1 else o2) sb = if p then bindS o1 sb else bindS o2 sb := by split <;> rfl
theorem onE_v {f : D → OS} : onE (.val d) env f = f d := id rfl
theorem onE_e {f : D → OS} : onE (.err c1) env f = .err c1 env := id rfl
def asgK (env : Env) (i : Nat) (r : Fr) (d : D) : OS := if i < env.length then .next (env.set i (some (r, d))) else .stuck
theorem asgK_ok {i : Nat} {r : Fr} (h : i < env.length) : asgK env i r d = .next (env.set i (some (r, d))) := if_pos h
theorem mAsg_t {i : Nat} {r : Fr} : mAsg true i r me env = onE (me (hOf env)) env (asgK env i r) := id rfl
theorem mAsg_f {i : Nat} {r : Fr} : mAsg false i r me env = onE (me (dOf env)) env (asgK env i r) := id rfl
theorem mRet_ap : mRet me env = onE (me (dOf env)) env .ret := id rfl
theorem mExpr_t : mExpr true me env = onE (me (hOf env)) env fun _ => .next env := id rfl
theorem mExpr_f : mExpr false me env = onE (me (dOf env)) env fun _ => .next env := id rfl
theorem mRaise_ap : mRaise c1 env = .err c1 env := id rfl
theorem mNext_ap : mNext env = .next env := id rfl
theorem mRetN_ap : mRetN env = .ret .non := id rfl
def retK (o : Option (Option (Fr × D))) (R : Fr) : OS := match o with
  | some (some (r, d)) => if frEq r R = true then .ret d else .stuck
  | _ => .stuck
theorem mRetV_ap {i : Nat} {R : Fr} : mRetV i R env = retK env[i]? R := id rfl
theorem retK_ok {r R : Fr} (h : frEq r R = true) : retK (some (some (r, d))) R = .ret d := by simp [retK, h]
mutual
theorem frEq_self : ∀ r : Fr, frEq r r = true
  | .z => by rw [frEq]
  | .n => by rw [frEq]
  | .k => by rw [frEq]
  | .l a => by rw [frEq]; exact frEq_self a
  | .t a => by rw [frEq]; exact frEqs_self a
  | .la x a => by rw [frEq, frEq_self a]; simp
  | .ob a => by rw [frEq]; exact frEqs_self a
  | .rc a => by rw [frEq]; exact frEqs_self a
  | .op a => by rw [frEq]; exact frEqs_self a
theorem frEqs_self : ∀ r : List Fr, frEqs r r = true
  | [] => by rw [frEqs]
  | a :: l => by rw [frEqs, frEq_self a, frEqs_self l]; rfl
end
theorem retK_s {R : Fr} : retK (some (some (R, d))) R = .ret d := retK_ok (frEq_self R)
def varK (o : Option D) : OE := match o with
  | some d => .val d
  | none => .stuck
theorem mVar_ap {i : Nat} : mVar i ev = varK (look ev i) := by unfold mVar varK; cases look ev i <;> rfl
theorem varK_s : varK (some d) = .val d := id rfl
theorem mC_ap : mC d ev = .val d := id rfl
theorem bindE_v {f : D → OE} : bindE (.val d) f = f d := id rfl
theorem bindE_e {f : D → OE} : bindE (.err c1) f = .err c1 := id rfl
def b2 (f : D → D → OE) (o p : OE) : OE := bindE o fun x => bindE p fun y => f x y
theorem m2_ap {f : D → D → OE} : m2 f ma mb ev = b2 f (ma ev) (mb ev) := id rfl
theorem b2_vv {f : D → D → OE} : b2 f (.val x) (.val y) = f x y := id rfl
theorem b2_ve {f : D → D → OE} : b2 f (.val x) (.err c1) = .err c1 := id rfl
theorem b2_e {f : D → D → OE} : b2 f (.err c1) o = .err c1 := id rfl
theorem m1_ap {f : D → OE} : m1 f ma ev = bindE (ma ev) f := id rfl
def nK (o : OE) : OE := match o with
  | .val d => if noL d = true then .val d else .stuck
  | o => o
theorem mN_ap : mN me ev = nK (me ev) := id rfl
theorem nK_ok (h : noL d = true) : nK (.val d) = .val d := if_pos h
theorem nK_i : nK (.val (.int i)) = .val (.int i) := id rfl
theorem nK_b : nK (.val (.bl b)) = .val (.bl b) := id rfl
theorem nK_n : nK (.val .non) = .val .non := id rfl
theorem nK_s {s : Str} : nK (.val (.str s)) = .val (.str s) := id rfl
theorem nK_e : nK (.err c1) = .err c1 := id rfl
theorem nK_t {ds : List D} (h : noLs ds = true) : nK (.val (.tup ds)) = .val (.tup ds) := nK_ok (by rw [noL]; exact h)
theorem nK_c {p : Prop} [Decidable p] {o1 o2 : OE} : nK (if p then o1 else o2) = if p then nK o1 else nK o2 := by split <;> rfl
def lnK (o : OE) : OE := match o with
  | .val (.lst ds) => if noLs ds = true then .val (.lst ds) else .stuck
  | .val _ => .stuck
  | o => o
theorem mLN_ap : mLN me ev = lnK (me ev) := by unfold mLN lnK; cases me ev with
  | val d => cases d <;> rfl
  | stuck => rfl
  | err x => rfl
theorem lnK_ok {ds : List D} (h : noLs ds = true) : lnK (.val (.lst ds)) = .val (.lst ds) := if_pos h
def consA (o : OE) (p : OA) : OA := match o with
  | .val d => (match p with
    | .vals ds => .vals (d :: ds)
    | o => o)
  | .stuck => .stuck
  | .err x => .err x
theorem mCons_ap {as : MA} : mCons me as ev = consA (me ev) (as ev) := id rfl
theorem consA_v {ds : List D} : consA (.val d) (.vals ds) = .vals (d :: ds) := id rfl
theorem consA_e {p : OA} : consA (.err c1) p = .err c1 := id rfl
theorem consA_ve : consA (.val d) (.err c1) = .err c1 := id rfl
theorem mNil_ap : mNil ev = .vals [] := id rfl
def callK (f : List D → OE) (o : OA) : OE := match o with
  | .vals ds => f ds
  | .stuck => .stuck
  | .err x => .err x
theorem mCall_ap {f : List D → OE} {as : MA} : mCall f as ev = callK f (as ev) := id rfl
theorem callK_v {f : List D → OE} {ds : List D} : callK f (.vals ds) = f ds := id rfl
theorem callK_e {f : List D → OE} : callK f (.err c1) = .err c1 := id rfl
def tupK (o : OA) : OE := match o with
  | .vals ds => if ds.length ≤ 1000 then .val (.tup ds) else .stuck
  | .stuck => .stuck
  | .err x => .err x
def lstK (o : OA) : OE := match o with
  | .vals ds => if ds.length ≤ 1000 then .val (.lst ds) else .stuck
  | .stuck => .stuck
  | .err x => .err x
theorem mTup_ap {as : MA} : mTup as ev = tupK (as ev) := id rfl
theorem mLst_ap {as : MA} : mLst as ev = lstK (as ev) := id rfl
theorem tupK_v {ds : List D} (h : ds.length ≤ 1000) : tupK (.vals ds) = .val (.tup ds) := if_pos h
theorem lstK_v {ds : List D} (h : ds.length ≤ 1000) : lstK (.vals ds) = .val (.lst ds) := if_pos h
theorem tupK_e : tupK (.err c1) = .err c1 := id rfl
theorem lstK_e : lstK (.err c1) = .err c1 := id rfl
def andK (o : OE) (mb : ME) (ev : Ev) : OE := match o with
  | .val (.bl true) => mb ev
  | .val (.bl false) => .val (.bl false)
  | .err x => .err x
  | _ => .stuck
def orK (o : OE) (mb : ME) (ev : Ev) : OE := match o with
  | .val (.bl false) => mb ev
  | .val (.bl true) => .val (.bl true)
  | .err x => .err x
  | _ => .stuck
theorem mAnd_ap : mAnd ma mb ev = andK (ma ev) mb ev := id rfl
theorem mOr_ap : mOr ma mb ev = orK (ma ev) mb ev := id rfl
theorem andK_t : andK (.val (.bl true)) mb ev = mb ev := id rfl
theorem andK_f : andK (.val (.bl false)) mb ev = .val (.bl false) := id rfl
theorem andK_b (h : mb ev = .val (.bl c)) : andK (.val (.bl b)) mb ev = .val (.bl (b && c)) := by cases b; rfl; exact h
theorem orK_t : orK (.val (.bl true)) mb ev = .val (.bl true) := id rfl
theorem orK_f : orK (.val (.bl false)) mb ev = mb ev := id rfl
theorem orK_b (h : mb ev = .val (.bl c)) : orK (.val (.bl b)) mb ev = .val (.bl (b || c)) := by cases b; exact h; rfl
theorem andK_e : andK (.err c1) mb ev = .err c1 := id rfl
theorem orK_e : orK (.err c1) mb ev = .err c1 := id rfl
def ifK (o : OE) (ma mb : ME) (ev : Ev) : OE := match o with
  | .val (.bl true) => ma ev
  | .val (.bl false) => mb ev
  | .err x => .err x
  | _ => .stuck
theorem mIfE_ap : mIfE mc ma mb ev = ifK (mc ev) ma mb ev := id rfl
theorem ifK_t : ifK (.val (.bl true)) ma mb ev = ma ev := id rfl
theorem ifK_f : ifK (.val (.bl false)) ma mb ev = mb ev := id rfl
theorem ifK_b : ifK (.val (.bl b)) ma mb ev = if b = true then ma ev else mb ev := by cases b <;> rfl
def chK (g : D → D → OE) (o : OE) (y : D) (mc : ME) (ev : Ev) : OE := match o with
  | .val (.bl true) => bindE (mc ev) fun z => g y z
  | .val (.bl false) => .val (.bl false)
  | _ => .stuck
def ch2 (f g : D → D → OE) (o p : OE) (mc : ME) (ev : Ev) : OE := bindE o fun x => bindE p fun y => chK g (f x y) y mc ev
theorem mChain_ap {f g : D → D → OE} : mChain f g ma mb mc ev = ch2 f g (ma ev) (mb ev) mc ev := id rfl
theorem ch2_v {f g : D → D → OE} : ch2 f g (.val x) (.val y) mc ev = chK g (f x y) y mc ev := id rfl
theorem chK_t {g : D → D → OE} : chK g (.val (.bl true)) y mc ev = bindE (mc ev) fun z => g y z := id rfl
theorem chK_f {g : D → D → OE} : chK g (.val (.bl false)) y mc ev = .val (.bl false) := id rfl
def slK (f : D → Option Int → Option Int → OE) (o p q : OE) : OE := bindE o fun x => bindE p fun l => (match oI l with
  | some l => bindE q fun h => (match oI h with
    | some h => f x l h
    | none => .stuck)
  | none => .stuck)
theorem mSl_ap {f : D → Option Int → Option Int → OE} : mSl f mx ml mh ev = slK f (mx ev) (ml ev) (mh ev) := id rfl
theorem slK_ii {f : D → Option Int → Option Int → OE} : slK f (.val x) (.val (.int i)) (.val (.int j)) = f x (some i) (some j) := id rfl
theorem slK_ni {f : D → Option Int → Option Int → OE} : slK f (.val x) (.val .non) (.val (.int j)) = f x none (some j) := id rfl
theorem slK_in {f : D → Option Int → Option Int → OE} : slK f (.val x) (.val (.int i)) (.val .non) = f x (some i) none := id rfl
theorem slK_nn {f : D → Option Int → Option Int → OE} : slK f (.val x) (.val .non) (.val .non) = f x none none := id rfl
def intK (d : D) : OE := match d with
  | .int i => .val (.int i)
  | _ => .stuck
theorem mInt_ap : mInt me ev = bindE (me ev) intK := by
  unfold mInt m1 intK
  rfl
theorem intK_i : intK (.int i) = .val (.int i) := id rfl
theorem dOf_nil : dOf [] = [] := id rfl
theorem dOf_c {s : Option (Fr × D)} : dOf (s :: env) = s.map Prod.snd :: dOf env := by cases s <;> rfl
def hid : Option (Fr × D) → Option D
  | none => none
  | some (.z, d) => some d
  | some (.n, d) => some d
  | some _ => none
theorem hOf_nil : hOf [] = [] := id rfl
theorem hOf_c {s : Option (Fr × D)} : hOf (s :: env) = hid s :: hOf env := by
  cases s with
  | none => rfl
  | some p =>
    obtain ⟨r, d⟩ := p
    cases r <;> rfl
/-! numbers -/
theorem pow_mono (a : Nat) {n m : Nat} (ha : 0 < a) (h : n ≤ m) : (a : Int) ^ n ≤ (a : Int) ^ m := by
  have := Nat.pow_le_pow_right ha h
  exact_mod_cast this
theorem fAdd_i : fAdd (.int i) (.int j) = .val (.int (i + j)) := id rfl
theorem fSub_i : fSub (.int i) (.int j) = .val (.int (i - j)) := id rfl
theorem fMul_l (h : -18446744073709551616 < i ∧ i < 18446744073709551616) : fMul (.int i) (.int j) = .val (.int (i * j)) := if_pos (.inl (.inl (by simpa using h)))
theorem fMul_r (h : -18446744073709551616 < j ∧ j < 18446744073709551616) : fMul (.int i) (.int j) = .val (.int (i * j)) := if_pos (.inl (.inr (by simpa using h)))
theorem fMod_i (h : 0 < j) : fMod (.int i) (.int j) = .val (.int (i % j)) := if_pos h
theorem log2_lt {n : Nat} {k : Nat} (h : n < 2 ^ k) (hk : 0 < k) : n.log2 < k := by
  by_cases h0 : n = 0
  · subst h0; simpa using hk
  · exact (Nat.log2_lt h0).mpr h
theorem fDiv_i (h : 0 < j) (h2 : j < 1606938044258990275541962092341162602522202993782792835301376) : fDiv (.int i) (.int j) = .val (.int (i / j)) := if_pos ⟨h, Nat.lt_of_lt_of_le (log2_lt (k := 200) (by omega) (by decide)) (by decide)⟩
theorem fMul_w (h : -2582249878086908589655919172003011874329705792829223512830659356540647622016841194629645353280137831435903171972747493376 < i ∧ i < 2582249878086908589655919172003011874329705792829223512830659356540647622016841194629645353280137831435903171972747493376) (h2 : -2582249878086908589655919172003011874329705792829223512830659356540647622016841194629645353280137831435903171972747493376 < j ∧ j < 2582249878086908589655919172003011874329705792829223512830659356540647622016841194629645353280137831435903171972747493376) : fMul (.int i) (.int j) = .val (.int (i * j)) := if_pos (.inr (by
  have a := log2_lt (n := i.natAbs) (k := 400) (by omega) (by decide)
  have b := log2_lt (n := j.natAbs) (k := 400) (by omega) (by decide)
  unfold L2.CMulW
  omega))
theorem fPow_i (h0 : 0 ≤ j) (h1 : j ≤ 1000000) (h : -18446744073709551616 < i ∧ i < 18446744073709551616) : fPow (.int i) (.int j) = .val (.int (i ^ j.toNat)) := if_pos ⟨h0, h1, by omega⟩
theorem fPow_18 : fPow (.int 10) (.int 18) = .val (.int 1000000000000000000) := id rfl
theorem fPow_20 : fPow (.int 10) (.int 20) = .val (.int 100000000000000000000) := id rfl
theorem fPow_3 (h : -18446744073709551616 < i ∧ i < 18446744073709551616) : fPow (.int i) (.int 3) = .val (.int (i ^ 3)) := fPow_i (by decide) (by decide) h
theorem fShl_i (h0 : 0 ≤ j) (h1 : j ≤ 1000000) (h : -18446744073709551616 < i ∧ i < 18446744073709551616) : fShl (.int i) (.int j) = .val (.int (i * 2 ^ j.toNat)) := if_pos ⟨h0, h1, by omega⟩
theorem fNeg_i : fNeg (.int i) = .val (.int (-i)) := id rfl
theorem fLt_t (h : i < j) : fLt (.int i) (.int j) = .val (.bl true) := by simp [fLt, fI, h]
theorem fLt_f (h : j ≤ i) : fLt (.int i) (.int j) = .val (.bl false) := by simp [fLt, fI]; omega
theorem fLe_t (h : i ≤ j) : fLe (.int i) (.int j) = .val (.bl true) := by simp [fLe, fI, h]
theorem fLe_f (h : j < i) : fLe (.int i) (.int j) = .val (.bl false) := by simp [fLe, fI]; omega
theorem fGt_t (h : j < i) : fGt (.int i) (.int j) = .val (.bl true) := by simp [fGt, fI, h]
theorem fGt_f (h : i ≤ j) : fGt (.int i) (.int j) = .val (.bl false) := by simp [fGt, fI]; omega
theorem fGe_t (h : j ≤ i) : fGe (.int i) (.int j) = .val (.bl true) := by simp [fGe, fI, h]
theorem fGe_f (h : i < j) : fGe (.int i) (.int j) = .val (.bl false) := by simp [fGe, fI]; omega
theorem fLt_i : fLt (.int i) (.int j) = .val (.bl (decide (i < j))) := id rfl
theorem fLe_i : fLe (.int i) (.int j) = .val (.bl (decide (i ≤ j))) := id rfl
theorem fGt_i : fGt (.int i) (.int j) = .val (.bl (decide (j < i))) := id rfl
theorem fGe_i : fGe (.int i) (.int j) = .val (.bl (decide (j ≤ i))) := id rfl
theorem eqD_i : eqD (.int i) (.int j) = decide (i = j) := by
  show PyData.eqv (.int i) (.int j) = _
  rw [PyData.eqv]
  by_cases h : i = j <;> simp [h]
theorem fEq_i : fEq (.int i) (.int j) = .val (.bl (decide (i = j))) := by unfold fEq; rw [if_pos ⟨rfl, rfl⟩, eqD_i]
theorem fNe_i : fNe (.int i) (.int j) = .val (.bl (!decide (i = j))) := by unfold fNe; rw [if_pos ⟨rfl, rfl⟩, eqD_i]
theorem fEq_t (h : i = j) : fEq (.int i) (.int j) = .val (.bl true) := by rw [fEq_i, decide_eq_true h]
theorem fEq_f (h : i ≠ j) : fEq (.int i) (.int j) = .val (.bl false) := by rw [fEq_i, decide_eq_false h]
theorem fNe_t (h : i ≠ j) : fNe (.int i) (.int j) = .val (.bl true) := by rw [fNe_i, decide_eq_false h]; rfl
theorem fNe_f (h : i = j) : fNe (.int i) (.int j) = .val (.bl false) := by rw [fNe_i, decide_eq_true h]; rfl
theorem eqD_refl (h : okP 9 x = true) : eqD x x = true := PySem.SeqAt.eqv_refl_plain _ (okP_plain h).1
theorem fEq_refl (h : okP 9 x = true) : fEq x x = .val (.bl true) := by unfold fEq; rw [if_pos ⟨h, h⟩, eqD_refl h]
theorem fNe_refl (h : okP 9 x = true) : fNe x x = .val (.bl false) := by unfold fNe; rw [if_pos ⟨h, h⟩, eqD_refl h]; rfl
theorem fNot_b : fNot (.bl b) = .val (.bl (!b)) := id rfl
theorem fNot_t : fNot (.bl true) = .val (.bl false) := id rfl
theorem fNot_f : fNot (.bl false) = .val (.bl true) := id rfl
theorem fIsi_ap {k : Kd} (h : isAdr d = false) : fIsi k d = .val (.bl (isKd k d)) := if_neg (by rw [h]; decide)
theorem isAdr_i {i : Int} : isAdr (.int i) = false := id rfl
theorem isAdr_b {b : Bool} : isAdr (.bl b) = false := id rfl
theorem isAdr_s {s0 : Str} : isAdr (.str s0) = false := id rfl
theorem isAdr_l {ds0 : List D} : isAdr (.lst ds0) = false := id rfl
theorem isAdr_t {ds0 : List D} : isAdr (.tup ds0) = false := id rfl
theorem isAdr_n : isAdr (.non) = false := id rfl
theorem isAdr_c {ns0 : List Int} : isAdr (.scr ns0) = false := id rfl
theorem isK_inti {i : Int} : isKd .int (.int i) = true := id rfl
theorem isK_intb {b : Bool} : isKd .int (.bl b) = true := id rfl
theorem isK_ints {s0 : Str} : isKd .int (.str s0) = false := id rfl
theorem isK_intl {ds0 : List D} : isKd .int (.lst ds0) = false := id rfl
theorem isK_intt {ds0 : List D} : isKd .int (.tup ds0) = false := id rfl
theorem isK_intn  : isKd .int (.non) = false := id rfl
theorem isK_booli {i : Int} : isKd .bool (.int i) = false := id rfl
theorem isK_boolb {b : Bool} : isKd .bool (.bl b) = true := id rfl
theorem isK_bools {s0 : Str} : isKd .bool (.str s0) = false := id rfl
theorem isK_booll {ds0 : List D} : isKd .bool (.lst ds0) = false := id rfl
theorem isK_boolt {ds0 : List D} : isKd .bool (.tup ds0) = false := id rfl
theorem isK_booln  : isKd .bool (.non) = false := id rfl
theorem isK_stri {i : Int} : isKd .str (.int i) = false := id rfl
theorem isK_strb {b : Bool} : isKd .str (.bl b) = false := id rfl
theorem isK_strs {s0 : Str} : isKd .str (.str s0) = true := id rfl
theorem isK_strl {ds0 : List D} : isKd .str (.lst ds0) = false := id rfl
theorem isK_strt {ds0 : List D} : isKd .str (.tup ds0) = false := id rfl
theorem isK_strn  : isKd .str (.non) = false := id rfl
theorem isK_listi {i : Int} : isKd .list (.int i) = false := id rfl
theorem isK_listb {b : Bool} : isKd .list (.bl b) = false := id rfl
theorem isK_lists {s0 : Str} : isKd .list (.str s0) = false := id rfl
theorem isK_listl {ds0 : List D} : isKd .list (.lst ds0) = true := id rfl
theorem isK_listt {ds0 : List D} : isKd .list (.tup ds0) = false := id rfl
theorem isK_listn  : isKd .list (.non) = false := id rfl
theorem isK_tuplei {i : Int} : isKd .tuple (.int i) = false := id rfl
theorem isK_tupleb {b : Bool} : isKd .tuple (.bl b) = false := id rfl
theorem isK_tuples {s0 : Str} : isKd .tuple (.str s0) = false := id rfl
theorem isK_tuplel {ds0 : List D} : isKd .tuple (.lst ds0) = false := id rfl
theorem isK_tuplet {ds0 : List D} : isKd .tuple (.tup ds0) = true := id rfl
theorem isK_tuplen  : isKd .tuple (.non) = false := id rfl
theorem isK_listscr {ns0 : List Int} : isKd .list (.scr ns0) = true := id rfl
theorem fMax_i : fMax2 [.int i, .int j] = .val (.int (max i j)) := by
  show OE.val (D.int (if j > i then j else i)) = _
  congr 2
  rw [Int.max_def]
  split <;> split <;> omega
theorem fMin_i : fMin2 [.int i, .int j] = .val (.int (min i j)) := by
  show OE.val (D.int (if j < i then j else i)) = _
  congr 2
  rw [Int.min_def]
  split <;> split <;> omega
theorem fIsN_n {n : Bool} : fIsN n .non = .val (.bl (!n)) := id rfl
theorem fIsN_i {n : Bool} : fIsN n (.int i) = .val (.bl n) := id rfl
/-! items -/
theorem fIdx_get {ds : List D} (h0 : 0 ≤ i) (h : ds[i.toNat]? = some d) : fIdx (.lst ds) (.int i) = .val d := by
  have hl := (List.getElem?_eq_some_iff.mp h).1
  simp only [fIdx, atI, ixN, if_pos h0, if_pos (show i < (ds.length : Int) by omega), Option.bind, h]
theorem fIdxT_get {ds : List D} (h0 : 0 ≤ i) (h : ds[i.toNat]? = some d) : fIdx (.tup ds) (.int i) = .val d := by
  have hl := (List.getElem?_eq_some_iff.mp h).1
  simp only [fIdx, atI, ixN, if_pos h0, if_pos (show i < (ds.length : Int) by omega), Option.bind, h]
theorem fIdxS_get {ns : List Int} (h0 : 0 ≤ i) (h : ns[i.toNat]? = some j) : fIdx (.scr ns) (.int i) = .val (.int j) := by
  have hl := (List.getElem?_eq_some_iff.mp h).1
  simp only [fIdx, atI, ixN, if_pos h0, if_pos (show i < (ns.length : Int) by omega), Option.bind, h]
section
variable {a0 a1 a2 a3 a4 a5 a6 a7 : D} {l : List D}
theorem fIdx_0 : fIdx (.lst (a0 :: l)) (.int 0) = .val a0 := fIdx_get (by decide) rfl
theorem fIdx_1 : fIdx (.lst (a0 :: a1 :: l)) (.int 1) = .val a1 := fIdx_get (by decide) rfl
theorem fIdx_2 : fIdx (.lst (a0 :: a1 :: a2 :: l)) (.int 2) = .val a2 := fIdx_get (by decide) rfl
theorem fIdx_3 : fIdx (.lst (a0 :: a1 :: a2 :: a3 :: l)) (.int 3) = .val a3 := fIdx_get (by decide) rfl
theorem fIdx_4 : fIdx (.lst (a0 :: a1 :: a2 :: a3 :: a4 :: l)) (.int 4) = .val a4 := fIdx_get (by decide) rfl
theorem fIdx_5 : fIdx (.lst (a0 :: a1 :: a2 :: a3 :: a4 :: a5 :: l)) (.int 5) = .val a5 := fIdx_get (by decide) rfl
theorem fIdx_6 : fIdx (.lst (a0 :: a1 :: a2 :: a3 :: a4 :: a5 :: a6 :: l)) (.int 6) = .val a6 := fIdx_get (by decide) rfl
theorem fIdxT_0 : fIdx (.tup (a0 :: l)) (.int 0) = .val a0 := fIdxT_get (by decide) rfl
theorem fIdxT_1 : fIdx (.tup (a0 :: a1 :: l)) (.int 1) = .val a1 := fIdxT_get (by decide) rfl
theorem fIdxT_2 : fIdx (.tup (a0 :: a1 :: a2 :: l)) (.int 2) = .val a2 := fIdxT_get (by decide) rfl
theorem fIdxT_3 : fIdx (.tup (a0 :: a1 :: a2 :: a3 :: l)) (.int 3) = .val a3 := fIdxT_get (by decide) rfl
end
theorem fLen_l {ds : List D} : fLen [.lst ds] = .val (.int ds.length) := id rfl
theorem fLen_t {ds : List D} : fLen [.tup ds] = .val (.int ds.length) := id rfl
theorem fLen_s {ns : List Int} : fLen [.scr ns] = .val (.int ns.length) := id rfl
theorem fSl_l {ds : List D} {l h : Option Int} : fSl (.lst ds) l h = .val (.lst (cutG ds l h)) := id rfl
theorem fSl_s {ns : List Int} {l h : Option Int} : fSl (.scr ns) l h = .val (.lst ((cutG ns l h).map D.int)) := id rfl
theorem fItL_l {ds : List D} : fItL (.lst ds) = .items ds := id rfl
theorem fItL_s {ns : List Int} : fItL (.scr ns) = .items (ns.map D.int) := id rfl
theorem fItT_t {ds : List D} : fItT (.tup ds) = .items ds := id rfl
/-! what is walked -/
def itK (f : List D → OI) (o : OA) : OI := match o with
  | .vals ds => f ds
  | .stuck => .stuck
  | .err x => .err x
theorem mIter_ap {f : List D → OI} {as : MA} : mIter f as ev = itK f (as ev) := id rfl
theorem itK_v {f : List D → OI} {ds : List D} : itK f (.vals ds) = f ds := id rfl
def it1K (f : D → OI) (o : OE) : OI := match o with
  | .val d => f d
  | .stuck => .stuck
  | .err x => .err x
theorem mIt1_ap {f : D → OI} : mIt1 f me ev = it1K f (me ev) := id rfl
theorem it1K_v {f : D → OI} : it1K f (.val d) = f d := id rfl
theorem fRng_1 (h : -4611686018427387904 ≤ j ∧ j < 4611686018427387904) : fRng [.int j] = .items (rng 0 j.toNat) := if_pos (by simpa using h)
theorem fRng_2 (h : -4611686018427387904 ≤ i ∧ i < 4611686018427387904) (h2 : -4611686018427387904 ≤ j ∧ j < 4611686018427387904) : fRng [.int i, .int j] = .items (rng i (j - i).toNat) := if_pos (by simpa [and_assoc] using And.intro h h2)
def forK (o : OI) (t : Tg) (sb : MS) (env : Env) : OS := match o with
  | .items ds => mLoop t sb ds env
  | .err x => .err x env
  | .stuck => .stuck
theorem mFor_t {mi : MI} {t : Tg} : mFor true mi t sb env = forK (mi (hOf env)) t sb env := id rfl
theorem mFor_f {mi : MI} {t : Tg} : mFor false mi t sb env = forK (mi (dOf env)) t sb env := id rfl
theorem forK_v {ds : List D} {t : Tg} : forK (.items ds) t sb env = mLoop t sb ds env := id rfl
def lcK (o : OI) (t : Tg) (mc me : ME) (vs : List Nat) (ev : Ev) : OE := match o with
  | .items ds => mLcL t mc me (wipeE ev vs) ds []
  | .err x => .err x
  | .stuck => .stuck
theorem mLc_ap {mi : MI} {t : Tg} {vs : List Nat} : mLc mi t mc me vs ev = lcK (mi ev) t mc me vs ev := id rfl
theorem lcK_v {ds : List D} {t : Tg} {vs : List Nat} : lcK (.items ds) t mc me vs ev = mLcL t mc me (wipeE ev vs) ds [] := id rfl
theorem lcK_e {t : Tg} {vs : List Nat} : lcK (.err c1) t mc me vs ev = .err c1 := id rfl
/-! two names at once -/
def tzK (env : Env) (is : List Nat) (d : D) : OS := match d with
  | .tup ds => if ds.length = is.length ∧ (∀ i ∈ is, i < env.length) then .next (setE env is (List.replicate ds.length .z) ds) else .stuck
  | _ => .stuck
theorem tzK_2 {i1 i2 : Nat} (h1 : i1 < env.length) (h2 : i2 < env.length) : tzK env [i1, i2] (.tup [x, y]) = .next ((env.set i1 (some (.z, x))).set i2 (some (.z, y))) := by
  unfold tzK
  dsimp only
  rw [if_pos ⟨rfl, fun i hi => by
    simp only [List.mem_cons, List.not_mem_nil, or_false] at hi
    rcases hi with rfl | rfl <;> assumption⟩]
  simp [setE]
theorem mAsgTz_f {is : List Nat} : mAsgTz false is me env = onE (me (dOf env)) env (tzK env is) := by
  unfold mAsgTz
  rw [vw_f]
  cases me (dOf env) <;> rfl
theorem mAsgTz_t {is : List Nat} : mAsgTz true is me env = onE (me (hOf env)) env (tzK env is) := by
  unfold mAsgTz
  rw [vw_t]
  cases me (hOf env) <;> rfl
/-! changes -/
def mutK (o : OA) (b : Bool) (i : Nat) (r : Fr) (me : ME) (f : List D → D → Option (List D)) (env : Env) : OS := match o with
  | .vals jd => (match intsD jd with
    | some js => (match cellAt env i js with
      | some (r', ds) => if frEq r' r = true then onE (me (vw b env)) env (fun d => match f ds d with
        | some ds' => .next (putAt env i js ds')
        | none => .stuck) else .stuck
      | none => .stuck)
    | none => .stuck)
  | _ => .stuck
theorem mMut_ap {i : Nat} {mj : MA} {r : Fr} {f : List D → D → Option (List D)} : mMut b i mj r me f env = mutK (mj (dOf env)) b i r me f env := id rfl
def mut0 (o : Option (Option (Fr × D))) (b : Bool) (i : Nat) (r : Fr) (p : OE) (f : List D → D → Option (List D)) (env : Env) : OS := match o with
  | some (some (.l r', .lst ds)) => if frEq r' r = true then onE p env (fun d => match f ds d with
        | some ds' => .next (env.set i (some (.l r', .lst ds')))
        | none => .stuck) else .stuck
  | some (some (.la a r', .lst ds)) => if frEq r' r = true then onE p env (fun d => match f ds d with
        | some ds' => .next (env.set i (some (.la a r', .lst ds')))
        | none => .stuck) else .stuck
  | _ => .stuck
theorem mutK_0 {i : Nat} {r : Fr} {f : List D → D → Option (List D)} : mutK (.vals []) b i r me f env = mut0 env[i]? b i r (me (vw b env)) f env := by
  unfold mutK mut0 cellAt putAt
  cases env[i]? with
  | none => rfl
  | some s => cases s with
    | none => rfl
    | some p =>
      obtain ⟨r0, d0⟩ := p
      cases r0 <;> cases d0 <;> rfl
theorem mut0_app {i : Nat} {r r' : Fr} {ds : List D} (hr : frEq r' r = true) (h : ds.length < 100000) : mut0 (some (some (.l r', .lst ds))) b i r (.val d) fApp env = .next (env.set i (some (.l r', .lst (ds ++ [d])))) := by
  simp [mut0, hr, onE, fApp, h]
theorem mut0_appS {i : Nat} {r : Fr} {ds : List D} (h : ds.length < 100000) : mut0 (some (some (.l r, .lst ds))) b i r (.val d) fApp env = .next (env.set i (some (.l r, .lst (ds ++ [d])))) := mut0_app (frEq_self r) h
def frzK (o : Option (Option (Fr × D))) (i : Nat) (env : Env) : Env := match o with
  | some (some (_, d)) => env.set i (some (.z, d))
  | _ => env
theorem mFrz_ap {i : Nat} : mFrz i sa env = sa (frz i env) := id rfl
theorem frz_ap {i : Nat} : frz i env = frzK env[i]? i env := id rfl
theorem frzK_s {i : Nat} {r : Fr} : frzK (some (some (r, d))) i env = env.set i (some (.z, d)) := id rfl
theorem frzK_n {i : Nat} : frzK (some none) i env = env := id rfl
theorem mut0_ext {i : Nat} {r : Fr} {ds es : List D} (h : ds.length + es.length < 100000) : mut0 (some (some (.l r, .lst ds))) b i r (.val (.lst es)) fExt env = .next (env.set i (some (.l r, .lst (ds ++ es)))) := by
  simp [mut0, frEq_self, onE, fExt, h]
theorem mut0_appLa {i : Nat} {a : PySem.Addr} {r : Fr} {ds : List D} (h : ds.length < 100000) : mut0 (some (some (.la a r, .lst ds))) b i r (.val d) fApp env = .next (env.set i (some (.la a r, .lst (ds ++ [d])))) := by simp [mut0, frEq_self, onE, fApp, h]
theorem mut0_clrLa {i : Nat} {a : PySem.Addr} {r : Fr} {ds : List D} : mut0 (some (some (.la a r, .lst ds))) b i r (.val d) fClr env = .next (env.set i (some (.la a r, .lst []))) := by simp [mut0, frEq_self, onE, fClr]
theorem mut0_clr {i : Nat} {r : Fr} {ds : List D} : mut0 (some (some (.l r, .lst ds))) b i r (.val d) fClr env = .next (env.set i (some (.l r, .lst []))) := by
  simp [mut0, frEq_self, onE, fClr]
def tK (env : Env) (is : List Nat) (rs : List Fr) (d : D) : OS := match d with
  | .tup ds => if ds.length = is.length ∧ ds.length = rs.length ∧ (∀ i ∈ is, i < env.length) then .next (setE env is rs ds) else .stuck
  | _ => .stuck
theorem mAsgT_f {is : List Nat} {rs : List Fr} : mAsgT false is rs me env = onE (me (dOf env)) env (tK env is rs) := by
  unfold mAsgT
  rw [vw_f]
  cases me (dOf env) <;> rfl
theorem mAsgT_t {is : List Nat} {rs : List Fr} : mAsgT true is rs me env = onE (me (hOf env)) env (tK env is rs) := by
  unfold mAsgT
  rw [vw_t]
  cases me (hOf env) <;> rfl
theorem tK_2 {i1 i2 : Nat} {r1 r2 : Fr} (h1 : i1 < env.length) (h2 : i2 < env.length) : tK env [i1, i2] [r1, r2] (.tup [x, y]) = .next ((env.set i1 (some (r1, x))).set i2 (some (r2, y))) := by
  unfold tK
  dsimp only
  rw [if_pos ⟨rfl, rfl, fun i hi => by
    simp only [List.mem_cons, List.not_mem_nil, or_false] at hi
    rcases hi with rfl | rfl <;> assumption⟩]
  simp [setE]
def parK (env : Env) (i j : Nat) (o p : OE) : OS := match o with
  | .val d1 => if noL d1 = true then (match p with
    | .val d2 => if noL d2 = true then (if i < env.length ∧ j < env.length then .next ((env.set i (some (.n, d1))).set j (some (.n, d2))) else .stuck) else .stuck
    | .err x => .err x env
    | .stuck => .stuck) else .stuck
  | .err x => .err x env
  | .stuck => .stuck
theorem mParN_ap {i j : Nat} : mParN i j ma mb env = parK env i j (ma (dOf env)) (mb (dOf env)) := by
  unfold mParN parK evP evP evP
  cases ma (dOf env) with
  | stuck => rfl
  | err x => rfl
  | val d1 =>
    dsimp only
    by_cases h : noL d1 = true
    · rw [if_pos h, if_pos h]
      cases mb (dOf env) with
      | stuck => rfl
      | err x => rfl
      | val d2 =>
        dsimp only
        by_cases h2 : noL d2 = true
        · rw [if_pos h2, if_pos h2]
        · rw [if_neg h2, if_neg h2]
    · rw [if_neg h, if_neg h]
theorem parK_v {i j : Nat} (h1 : noL x = true) (h2 : noL y = true) (hi : i < env.length) (hj : j < env.length) : parK env i j (.val x) (.val y) = .next ((env.set i (some (.n, x))).set j (some (.n, y))) := by
  unfold parK
  dsimp only
  rw [if_pos h1, if_pos h2, if_pos ⟨hi, hj⟩]
def app1 (o c : Option (Option (Fr × D))) (env : Env) (i : Nat) (r : Fr) : OS := match o, c with
  | some (some (rk, d)), some (some (.l r', .lst ds)) => if frEq r' r = true ∧ frEq rk r = true ∧ ds.length < 100000 then .next (env.set i (some (.l r', .lst (ds ++ [d])))) else .stuck
  | some (some (rk, d)), some (some (.la a r', .lst ds)) => if frEq r' r = true ∧ frEq rk r = true ∧ ds.length < 100000 then .next (env.set i (some (.la a r', .lst (ds ++ [d])))) else .stuck
  | _, _ => .stuck
theorem mAppMv_ap {i k : Nat} {r : Fr} : mAppMv i k mNil r env = app1 env[k]? (env.set k none)[i]? (env.set k none) i r := by
  unfold mAppMv mNil app1
  dsimp only [intsD]
  cases env[k]? with
  | none => rfl
  | some p =>
    cases p with
    | none => rfl
    | some p =>
      obtain ⟨rk, d⟩ := p
      dsimp only
      unfold cellAt putAt
      cases (env.set k none)[i]? with
      | none => rfl
      | some s => cases s with
        | none => rfl
        | some q =>
          obtain ⟨r0, d0⟩ := q
          cases r0 <;> cases d0 <;> rfl
theorem app1_l {i : Nat} {r : Fr} {ds : List D} (h : ds.length < 100000) : app1 (some (some (r, d))) (some (some (.l r, .lst ds))) env i r = .next (env.set i (some (.l r, .lst (ds ++ [d])))) := by
  unfold app1
  dsimp only
  rw [if_pos ⟨frEq_self r, frEq_self r, h⟩]
/-! whole defs -/
def finR (R : Fr) (o : OS) : OE := match o with
  | .ret d => .val d
  | .next _ => if R.fz = true then .val .non else .stuck
  | .err x _ => .err x
  | _ => .stuck
theorem runF_ap {R : Fr} {n N : Nat} {ds : List D} (h : ds.length = n) : runF R n N sa ds = finR R (sa (ini N ds)) := if_pos h
theorem finR_r {R : Fr} : finR R (.ret d) = .val d := id rfl
theorem finR_n {R : Fr} {e : Env} (h : R.fz = true) : finR R (.next e) = .val .non := if_pos h
theorem finR_nn {e : Env} : finR .n (.next e) = .val .non := id rfl
theorem finR_nz {e : Env} : finR .z (.next e) = .val .non := id rfl
theorem finR_e {R : Fr} {e : Env} : finR R (.err c1 e) = .err c1 := id rfl
end
/-! ### loops -/
def StepZ (Z : OS → Prop) (J : Env → Prop) : OS → Prop
  | .next e => J e
  | .cont e => J e
  | .brk e => Z (.next e)
  | .ret d => Z (.ret d)
  | .err x e => Z (.err x e)
  | .stuck => Z .stuck
theorem turn_z {Z : OS → Prop} {J : Env → Prop} {o : OS} {k : Env → OS} (h : StepZ Z J o) (hk : ∀ e, J e → Z (k e)) : Z (turn o k) := by
  cases o <;> first | exact hk _ h | exact h
theorem loop_drop {t : Tg} {mb : MS} {Z : OS → Prop} {ds : List D} (I : Nat → Env → Prop)
    (step : ∀ i (hi : i < ds.length) e, I i e → ∃ e1, t.put ds[i] e = some e1 ∧ StepZ Z (I (i + 1)) (mb e1))
    (done : ∀ e, I ds.length e → Z (.next e)) : ∀ (k i : Nat) (e : Env), i + k = ds.length → I i e → Z (mLoop t mb (ds.drop i) e)
  | 0, i, e, hk, h => by
    have : i = ds.length := by omega
    subst this
    rw [List.drop_length]
    exact done e h
  | k + 1, i, e, hk, h => by
    have hi : i < ds.length := by omega
    rw [List.drop_eq_getElem_cons hi]
    obtain ⟨e1, h1, h2⟩ := step i hi e h
    unfold mLoop
    rw [h1]
    exact turn_z h2 fun e he => loop_drop I step done k (i + 1) e (by omega) he
theorem loop_run {t : Tg} {mb : MS} (Z : OS → Prop) {ds : List D} (I : Nat → Env → Prop) {env : Env} (h0 : I 0 env)
    (step : ∀ i (hi : i < ds.length) e, I i e → ∃ e1, t.put ds[i] e = some e1 ∧ StepZ Z (I (i + 1)) (mb e1))
    (done : ∀ e, I ds.length e → Z (.next e)) : Z (mLoop t mb ds env) := by
  have := loop_drop I step done ds.length 0 env (by omega) h0
  rwa [List.drop_zero] at this
theorem rng_len {lo : Int} {n : Nat} : (rng lo n).length = n := by simp [rng]
theorem rng_get {lo : Int} {n i : Nat} (h : i < (rng lo n).length) : (rng lo n)[i] = .int (lo + (i : Int)) := by simp [rng]
/-- over a range -/
theorem loop_rng {k : Nat} {mb : MS} (Z : OS → Prop) {lo : Int} {n : Nat} (I : Nat → Env → Prop) {env : Env} (h0 : I 0 env)
    (step : ∀ (i : Nat), i < n → ∀ e, I i e → k < e.length ∧ StepZ Z (I (i + 1)) (mb (e.set k (some (.z, .int (lo + (i : Int)))))))
    (done : ∀ e, I n e → Z (.next e)) : Z (mLoop (.nm k) mb (rng lo n) env) := loop_run Z I h0 (fun i hi e h => by
      rw [rng_get]
      rw [rng_len] at hi
      obtain ⟨h1, h2⟩ := step i hi e h
      exact ⟨_, if_pos h1, h2⟩) (fun e h => done e (by rwa [rng_len] at h))
theorem while_run {mc : ME} {mb : MS} (Z : OS → Prop) (I : Nat → Env → Prop) : ∀ (fuel m : Nat) (env : Env), m < fuel → I m env →
    (∀ m e, I m e → ∃ b, mc (dOf e) = .val (.bl b) ∧ (b = false → Z (.next e)) ∧ (b = true → StepZ Z (fun e' => ∃ m', m' < m ∧ I m' e') (mb e))) → Z (mWhile mc mb fuel env)
  | 0, m, env, hm, _, _ => by omega
  | f + 1, m, env, hm, h, step => by
    obtain ⟨b, h1, h2, h3⟩ := step m env h
    unfold mWhile
    rw [h1]
    cases b with
    | false => exact h2 rfl
    | true => exact turn_z (h3 rfl) fun e ⟨m', hm', he⟩ => while_run Z I f m' e (by omega) he step
/-! ### comprehensions -/
theorem lc_gen {t : Tg} {mc me : ME} {ev : Ev} (p : D → Bool) (f : D → D) : ∀ (ds acc : List D), (∀ d ∈ ds, ∃ ev1, t.putE d ev = some ev1 ∧ mc ev1 = .val (.bl (p d)) ∧ (p d = true → me ev1 = .val (f d))) → acc.length + ds.length ≤ 100000 →
    mLcL t mc me ev ds acc = .val (.lst (acc ++ (ds.filter p).map f))
  | [], acc, _, _ => by simp [mLcL]
  | d :: ds, acc, h, hl => by
    obtain ⟨ev1, h1, h2, h3⟩ := h d (by simp)
    unfold mLcL
    rw [h1]
    dsimp only
    rw [h2]
    cases hp : p d with
    | false =>
      dsimp only
      rw [lc_gen p f ds acc (fun d hd => h d (by simp [hd])) (by simp at hl; omega), List.filter_cons, if_neg (by simp [hp])]
    | true =>
      dsimp only
      rw [h3 hp]
      dsimp only
      rw [if_pos (by simp at hl; omega), lc_gen p f ds (acc ++ [f d]) (fun d hd => h d (by simp [hd])) (by simp at hl ⊢; omega), List.filter_cons, if_pos hp]
      simp
theorem lc_map {t : Tg} {me : ME} {ev : Ev} (f : D → D) {ds : List D} (h : ∀ d ∈ ds, ∃ ev1, t.putE d ev = some ev1 ∧ me ev1 = .val (f d)) (hl : ds.length ≤ 100000) : mLcL t (mC (.bl true)) me ev ds [] = .val (.lst (ds.map f)) := by
  rw [lc_gen (fun _ => true) f ds [] (fun d hd => by
    obtain ⟨ev1, h1, h2⟩ := h d hd
    exact ⟨ev1, h1, rfl, fun _ => h2⟩) (by simpa using hl), List.filter_eq_self.mpr (fun _ _ => rfl), List.nil_append]
theorem mem_rng {lo : Int} {n : Nat} {d : D} : d ∈ rng lo n ↔ ∃ i : Nat, i < n ∧ d = .int (lo + (i : Int)) := by
  simp only [rng, List.mem_map, List.mem_range]
  constructor
  · rintro ⟨i, h, rfl⟩; exact ⟨i, h, rfl⟩
  · rintro ⟨i, h, rfl⟩; exact ⟨i, h, rfl⟩
/-- over a range: the numbers -/
theorem lc_rng {k : Nat} {me : ME} {ev : Ev} (f : Int → D) {lo : Int} {n : Nat} (h : ∀ i : Nat, i < n → me (ev.set k (some (.int (lo + (i : Int))))) = .val (f (lo + (i : Int)))) (hl : n ≤ 100000) : mLcL (.nm k) (mC (.bl true)) me ev (rng lo n) [] = .val (.lst ((List.range n).map fun (i : Nat) => f (lo + (i : Int)))) := by
  rw [lc_map (fun d => match d with | .int i => f i | d => d) (fun d hd => by
    obtain ⟨i, hi, rfl⟩ := mem_rng.mp hd
    exact ⟨_, rfl, h i hi⟩) (by rw [rng_len]; exact hl)]
  simp [rng, Function.comp_def]
theorem lc_rngF {k : Nat} {mc me : ME} {ev : Ev} (p : Int → Bool) (f : Int → D) {lo : Int} {n : Nat} (hc : ∀ i : Nat, i < n → mc (ev.set k (some (.int (lo + (i : Int))))) = .val (.bl (p (lo + (i : Int)))))
    (h : ∀ i : Nat, i < n → p (lo + (i : Int)) = true → me (ev.set k (some (.int (lo + (i : Int))))) = .val (f (lo + (i : Int)))) (hl : n ≤ 100000) : mLcL (.nm k) mc me ev (rng lo n) [] = .val (.lst (((List.range n).filter fun (i : Nat) => p (lo + (i : Int))).map fun (i : Nat) => f (lo + (i : Int)))) := by
  rw [lc_gen (fun d => match d with | .int i => p i | _ => false) (fun d => match d with | .int i => f i | d => d) _ _ (fun d hd => by
    obtain ⟨i, hi, rfl⟩ := mem_rng.mp hd
    exact ⟨_, rfl, hc i hi, h i hi⟩) (by simp [rng_len]; exact hl)]
  simp [rng, List.filter_map, Function.comp_def]
theorem lc_ex {t : Tg} {me : ME} {ev : Ev} (P : Int → Prop) : ∀ {ds : List D}, (∀ d ∈ ds, ∃ ev1 z, t.putE d ev = some ev1 ∧ me ev1 = .val (.int z) ∧ P z) → ∀ acc : List D, acc.length + ds.length ≤ 100000 → ∃ zs : List Int, mLcL t (mC (.bl true)) me ev ds acc = .val (.lst (acc ++ zs.map D.int)) ∧ zs.length = ds.length ∧ ∀ z ∈ zs, P z
  | [], _, acc, _ => ⟨[], by simp [mLcL], rfl, fun z hz => by simp at hz⟩
  | d :: ds, h, acc, hl => by
    obtain ⟨ev1, z, h1, h2, h3⟩ := h d (by simp)
    obtain ⟨zs, g1, g2, g3⟩ := lc_ex (ds := ds) P (fun d hd => h d (by simp [hd])) (acc ++ [.int z]) (by simp at hl ⊢; omega)
    refine ⟨z :: zs, ?_, by simp [g2], fun q hq => ?_⟩
    · unfold mLcL
      rw [h1]
      dsimp only
      rw [mC_ap]
      dsimp only
      rw [h2]
      dsimp only
      rw [if_pos (by simp at hl; omega), g1]
      simp
    · rcases List.mem_cons.mp hq with rfl | hq
      · exact h3
      · exact g3 q hq
/-- over a range: numbers, each as P says -/
theorem lc_rng_ex {k : Nat} {me : ME} {ev : Ev} (P : Int → Prop) {lo : Int} {n : Nat} (h : ∀ i : Nat, i < n → ∃ z, me (ev.set k (some (.int (lo + (i : Int))))) = .val (.int z) ∧ P z) (hl : n ≤ 100000) : ∃ zs : List Int, mLcL (.nm k) (mC (.bl true)) me ev (rng lo n) [] = .val (.lst (zs.map D.int)) ∧ zs.length = n ∧ ∀ z ∈ zs, P z := by
  obtain ⟨zs, h1, h2, h3⟩ := lc_ex (t := .nm k) (me := me) (ev := ev) P (ds := rng lo n) (fun d hd => by
    obtain ⟨i, hi, rfl⟩ := mem_rng.mp hd
    obtain ⟨z, hz, hp⟩ := h i hi
    exact ⟨_, z, rfl, hz, hp⟩) [] (by simp [rng_len]; exact hl)
  exact ⟨zs, by simpa using h1, by rw [h2, rng_len], h3⟩
/-- over a range: those numbers that stand the test -/
theorem lc_rngI {k : Nat} {mc : ME} {ev : Ev} (p : Int → Bool) {lo : Int} {n : Nat} (hk : k < ev.length) (hc : ∀ i : Nat, i < n → mc (ev.set k (some (.int (lo + (i : Int))))) = .val (.bl (p (lo + (i : Int))))) (hl : n ≤ 100000) : mLcL (.nm k) mc (mN (mVar k)) ev (rng lo n) [] = .val (.lst ((((List.range n).filter fun (i : Nat) => p (lo + (i : Int))).map fun (i : Nat) => lo + (i : Int)).map D.int)) := by
  have look_set : ∀ (ev : Ev) (k : Nat) (d : D), k < ev.length → look (ev.set k (some d)) k = some d := fun ev => by
    induction ev with
    | nil => intro k d h; simp at h
    | cons x r ih =>
      intro k d h
      cases k with
      | zero => rfl
      | succ k => exact ih k d (by simpa using h)
  rw [lc_rngF p D.int hc (fun i hi _ => by
    show nK (mVar k _) = _
    rw [mVar_ap, look_set _ _ _ hk]
    rfl) hl]
  simp
/-! ### lists of whole numbers -/
theorem noLs_ints : ∀ ns : List Int, noLs (ns.map D.int) = true
  | [] => rfl
  | n :: r => by rw [List.map_cons, noLs, noLs_ints r]; rfl
theorem okPs_ints {k : Nat} : ∀ ns : List Int, okPs k (ns.map D.int) = true
  | [] => by rw [List.map_nil, okPs]
  | n :: r => by rw [List.map_cons, okPs, okPs_ints r]; cases k <;> rfl
theorem okP_ints {k : Nat} {ns : List Int} : okP (k + 1) (.lst (ns.map D.int)) = true := by rw [okP]; exact okPs_ints ns
theorem intsD_ints : ∀ ns : List Int, intsD (ns.map D.int) = some ns
  | [] => rfl
  | n :: r => by rw [List.map_cons, intsD, intsD_ints r]
theorem fIdx_ints {ns : List Int} {i : Int} (h0 : 0 ≤ i) (h : i < ns.length) : fIdx (.lst (ns.map D.int)) (.int i) = .val (.int (ns.getD i.toNat 0)) := fIdx_get h0 (by
  have hl : i.toNat < ns.length := by omega
  simp [hl])
theorem fIdx_mem {ns : List Int} {i : Int} (h0 : 0 ≤ i) (h : i < ns.length) : ∃ z, z ∈ ns ∧ fIdx (.lst (ns.map D.int)) (.int i) = .val (.int z) := by
  have hl : i.toNat < ns.length := by omega
  exact ⟨ns[i.toNat], List.getElem_mem hl, fIdx_get h0 (by simp [hl])⟩
theorem fIdx_last {ds : List D} {d : D} : fIdx (.lst (ds ++ [d])) (.int (-1)) = .val d := by
  have h1 : ¬ (0 : Int) ≤ -1 := by decide
  have h2 : -(((ds ++ [d]).length : Nat) : Int) ≤ -1 := by simp; omega
  have h3 : ((-1 : Int) + ((ds ++ [d]).length : Nat)).toNat = ds.length := by simp; omega
  simp only [fIdx, atI, ixN, if_neg h1, if_pos h2, h3, Option.bind]
  simp
theorem fMaxL_ints {ns : List Int} (h : 0 < ns.length) : fMaxL [.lst (ns.map D.int)] = .val (.int (maxI ns)) := by
  simp [fMaxL, intsD_ints, h]
theorem fInt_b {b : Bool} : fInt [.bl b] = .val (.int (if b = true then 1 else 0)) := id rfl
theorem fRep_1 {x : D} {k : Nat} (h : k ≤ 1000) : fRep (.lst [x]) (.int (k : Int)) = .val (.lst (List.replicate k x)) := by
  have e : (List.replicate k [x]).flatten = List.replicate k x := by
    induction k with
    | zero => rfl
    | succ k ih => rw [List.replicate_succ, List.flatten_cons, ih (by omega), List.replicate_succ]; rfl
  have e2 : ((k : Nat) : Int).toNat = k := by omega
  simp only [fRep]
  rw [if_pos ⟨by omega, by omega, by simp⟩, e2, e]
theorem fCat_l {xs ys : List D} (h : xs.length + ys.length < 100000) : fCat (.lst xs) (.lst ys) = .val (.lst (xs ++ ys)) := if_pos h
theorem int_map_inj {xs ys : List Int} (h : xs.map D.int = ys.map D.int) : xs = ys := by
  induction xs generalizing ys with
  | nil => cases ys <;> simp_all
  | cons x xs ih => cases ys with
    | nil => simp at h
    | cons y ys => simp at h; obtain ⟨rfl, h⟩ := h; rw [ih h]
theorem eqD_ints : ∀ {xs ys : List Int}, PyData.eqvAll (toPy.toPys (xs.map D.int)) (toPy.toPys (ys.map D.int)) = decide (xs = ys)
  | [], [] => by simp [toPy.toPys, PyData.eqvAll]
  | [], y :: ys => by simp [toPy.toPys, PyData.eqvAll]
  | x :: xs, [] => by simp [toPy.toPys, PyData.eqvAll]
  | x :: xs, y :: ys => by
    have := @eqD_ints xs ys
    have e := @eqD_i x y
    unfold eqD at e
    simp only [List.map_cons, toPy.toPys, PyData.eqvAll, this, e]
    by_cases h : x = y <;> simp [h]
theorem fNe_ints {xs ys : List Int} : fNe (.lst (xs.map D.int)) (.lst (ys.map D.int)) = .val (.bl (!decide (xs = ys))) := by
  unfold fNe
  rw [if_pos ⟨okP_ints, okP_ints⟩]
  unfold eqD
  rw [toPy, toPy, PyData.eqv, eqD_ints]
theorem fEq_ints {xs ys : List Int} : fEq (.lst (xs.map D.int)) (.lst (ys.map D.int)) = .val (.bl (decide (xs = ys))) := by
  unfold fEq
  rw [if_pos ⟨okP_ints, okP_ints⟩]
  unfold eqD
  rw [toPy, toPy, PyData.eqv, eqD_ints]
theorem eqD_lnil {ds : List D} : eqD (.lst ds) (.lst []) = ds.isEmpty := by
  unfold eqD
  rw [toPy, toPy, PyData.eqv]
  cases ds with
  | nil => rfl
  | cons d ds => rw [toPy.toPys, toPy.toPys, PyData.eqvAll]; rfl
theorem fEq_lnil {ds : List D} (h : okPs 8 ds = true) : fEq (.lst ds) (.lst []) = .val (.bl ds.isEmpty) := by
  unfold fEq
  rw [if_pos ⟨by rw [okP]; exact h, by rw [okP, okPs]⟩, eqD_lnil]
theorem fNe_lnil {ds : List D} (h : okPs 8 ds = true) : fNe (.lst ds) (.lst []) = .val (.bl (!ds.isEmpty)) := by
  unfold fNe
  rw [if_pos ⟨by rw [okP]; exact h, by rw [okP, okPs]⟩, eqD_lnil]
/-! ### a list within a list -/
theorem atI_at {α : Type} {xs : List α} {j : Int} {k : Nat} {x : α} (h1 : ixN xs.length j = some k) (h2 : xs[k]? = some x) : atI xs j = some x := by
  unfold atI
  rw [h1]
  exact h2
theorem cellAt_1 {env : Env} {i k : Nat} {j : Int} {r : Fr} {Ds ds : List D} (h0 : env[i]? = some (some (.l (.l r), .lst Ds))) (h1 : ixN Ds.length j = some k) (h2 : Ds[k]? = some (.lst ds)) : cellAt env i [j] = some (r, ds) := by
  unfold cellAt
  rw [h0]
  simp only [dig, digF, atI_at h1 h2]
theorem putAt_1 {env : Env} {i k : Nat} {j : Int} {r : Fr} {Ds ds es : List D} (h0 : env[i]? = some (some (.l (.l r), .lst Ds))) (h1 : ixN Ds.length j = some k) (h2 : Ds[k]? = some (.lst ds)) : putAt env i [j] es = env.set i (some (.l (.l r), .lst (Ds.set k (.lst es)))) := by
  unfold putAt
  rw [h0]
  simp only [bury, atI_at h1 h2, setI, h1]
theorem mut_1 {env : Env} {i k : Nat} {j : Int} {r : Fr} {Ds ds es : List D} {d : D} {b : Bool} {me : ME} {f : List D → D → Option (List D)} {mi : ME} (hi : mi (dOf env) = .val (.int j)) (h0 : env[i]? = some (some (.l (.l r), .lst Ds))) (h1 : ixN Ds.length j = some k) (h2 : Ds[k]? = some (.lst ds)) (hm : me (vw b env) = .val d) (hf : f ds d = some es) :
    mMut b i (mSnoc mNil mi) r me f env = .next (env.set i (some (.l (.l r), .lst (Ds.set k (.lst es))))) := by
  unfold mMut mSnoc mNil
  dsimp only
  rw [hi]
  simp only [List.nil_append, intsD, cellAt_1 h0 h1 h2, frEq_self, if_true, hm, onE, hf, putAt_1 h0 h1 h2]
theorem put_1 {env : Env} {i k p : Nat} {j q : Int} {r : Fr} {Ds ds : List D} {d : D} {b : Bool} {me mi mq : ME} (hi : mi (dOf env) = .val (.int j)) (hq : mq (dOf env) = .val (.int q)) (h0 : env[i]? = some (some (.l (.l r), .lst Ds))) (h1 : ixN Ds.length j = some k) (h2 : Ds[k]? = some (.lst ds)) (hm : me (vw b env) = .val d) (h3 : ixN ds.length q = some p) :
    mPut b i (mSnoc mNil mi) r mq me env = .next (env.set i (some (.l (.l r), .lst (Ds.set k (.lst (ds.set p d)))))) := by
  unfold mPut mSnoc mNil
  dsimp only
  rw [hm, hi, hq]
  simp only [List.nil_append, intsD, cellAt_1 h0 h1 h2, frEq_self, if_true, onE, h3, putAt_1 h0 h1 h2]
theorem cellAt_0 {env : Env} {i : Nat} {r : Fr} {ds : List D} (h0 : env[i]? = some (some (.l r, .lst ds))) : cellAt env i [] = some (r, ds) := by
  unfold cellAt
  rw [h0]
  simp only [dig, digF]
theorem putAt_0 {env : Env} {i : Nat} {r : Fr} {ds es : List D} (h0 : env[i]? = some (some (.l r, .lst ds))) : putAt env i [] es = env.set i (some (.l r, .lst es)) := by
  unfold putAt
  rw [h0]
  simp only [bury]
theorem put_0 {env : Env} {i p : Nat} {q : Int} {r : Fr} {ds : List D} {d : D} {b : Bool} {me mq : ME} (hq : mq (dOf env) = .val (.int q)) (h0 : env[i]? = some (some (.l r, .lst ds))) (hm : me (vw b env) = .val d) (h3 : ixN ds.length q = some p) :
    mPut b i mNil r mq me env = .next (env.set i (some (.l r, .lst (ds.set p d)))) := by
  unfold mPut mNil
  dsimp only
  rw [hm, hq]
  simp only [intsD, cellAt_0 h0, frEq_self, if_true, onE, h3, putAt_0 h0]
theorem ixN_pos {n k : Nat} (h : k < n) : ixN n (k : Int) = some k := by
  unfold ixN
  rw [if_pos (by omega), if_pos (by omega), Int.toNat_natCast]
theorem ixN_last {n : Nat} (h : 0 < n) : ixN n (-1) = some (n - 1) := by
  unfold ixN
  rw [if_neg (by decide), if_pos (by omega)]
  congr 1
  omega
/-! ### comprehensions over a mapped range -/
theorem lc_nat {t : Tg} {me : ME} {ev : Ev} (g f : Nat → D) : ∀ (l : List Nat) (acc : List D), (∀ i ∈ l, ∃ ev1, t.putE (g i) ev = some ev1 ∧ me ev1 = .val (f i)) → acc.length + l.length ≤ 100000 → mLcL t (mC (.bl true)) me ev (l.map g) acc = .val (.lst (acc ++ l.map f))
  | [], acc, _, _ => by simp [mLcL]
  | i :: l, acc, h, hl => by
    obtain ⟨ev1, h1, h2⟩ := h i (by simp)
    rw [List.map_cons]
    unfold mLcL
    rw [h1]
    dsimp only
    rw [mC_ap]
    dsimp only
    rw [h2]
    dsimp only
    rw [if_pos (by simp at hl; omega), lc_nat g f l (acc ++ [f i]) (fun j hj => h j (by simp [hj])) (by simp at hl ⊢; omega)]
    simp
theorem fIn_trues {α : Type} (xs : List α) : fIn false (.bl false) (.lst (xs.map fun _ => .bl true)) = .val (.bl false) := by
  have h1 : okPs 9 (xs.map fun _ => D.bl true) = true := by
    induction xs with
    | nil => rw [List.map_nil, okPs]
    | cons x xs ih => rw [List.map_cons, okPs, ih]; rfl
  have h2 : inD (.bl false) (xs.map fun _ => D.bl true) = false := by
    induction xs with
    | nil => rfl
    | cons x xs ih =>
      have := ih (by rw [List.map_cons, okPs, Bool.and_eq_true] at h1; exact h1.2)
      unfold inD at this ⊢
      rw [List.map_cons, List.any_cons, this]
      rfl
  unfold fIn
  dsimp only
  rw [if_pos ⟨rfl, h1⟩, h2]
  rfl
/-! ### pairs -/
def pr (a b : Int) : D := .tup [.int a, .int b]
theorem eqD_pr {a b c d : Int} : eqD (pr a b) (pr c d) = (decide (a = c) && decide (b = d)) := by
  have e1 := @eqD_i a c
  have e2 := @eqD_i b d
  unfold eqD at e1 e2 ⊢
  unfold pr
  simp only [toPy, toPy.toPys, PyData.eqv, PyData.eqvAll, Bool.and_true] at e1 e2 ⊢
  rw [e1, e2]
theorem okP_pr {k : Nat} {a b : Int} : okP (k + 1) (pr a b) = true := by
  unfold pr
  rw [okP]
  exact okPs_ints [a, b]
theorem okPs_prs {α : Type} {k : Nat} (g h : α → Int) : ∀ l : List α, okPs (k + 1) (l.map fun x => pr (g x) (h x)) = true
  | [] => by rw [List.map_nil, okPs]
  | x :: l => by rw [List.map_cons, okPs, okP_pr, okPs_prs g h l]; rfl
theorem okP_prs {α : Type} {k : Nat} (g h : α → Int) (l : List α) : okP (k + 2) (.lst (l.map fun x => pr (g x) (h x))) = true := by
  rw [okP]
  exact okPs_prs g h l
theorem noLs_prs {α : Type} (g h : α → Int) : ∀ l : List α, noLs (l.map fun x => pr (g x) (h x)) = true
  | [] => rfl
  | x :: l => by rw [List.map_cons, noLs, noLs_prs g h l]; rfl
theorem fEq_pr {a b c d : Int} : fEq (pr a b) (pr c d) = .val (.bl (decide (a = c) && decide (b = d))) := by
  unfold fEq
  rw [if_pos ⟨okP_pr, okP_pr⟩, eqD_pr]
theorem fNe_pr {a b c d : Int} : fNe (pr a b) (pr c d) = .val (.bl (!(decide (a = c) && decide (b = d)))) := by
  unfold fNe
  rw [if_pos ⟨okP_pr, okP_pr⟩, eqD_pr]
/-- a loop that keeps the items that stand a test -/
theorem lc_keep {t : Tg} {mc me : ME} {ev : Ev} (p : D → Bool) {ds : List D} (h : ∀ d ∈ ds, ∃ ev1, t.putE d ev = some ev1 ∧ mc ev1 = .val (.bl (p d)) ∧ me ev1 = .val d) (hl : ds.length ≤ 100000) : mLcL t mc me ev ds [] = .val (.lst (ds.filter p)) := by
  rw [lc_gen p (fun d => d) ds [] (fun d hd => by
    obtain ⟨ev1, h1, h2, h3⟩ := h d hd
    exact ⟨ev1, h1, h2, fun _ => h3⟩) (by simpa using hl)]
  simp
theorem put_tp2 {i1 i2 : Nat} {x y : D} {env : Env} (h1 : i1 < env.length) (h2 : i2 < env.length) : (Tg.tp [i1, i2]).put (.tup [x, y]) env = some ((env.set i1 (some (.z, x))).set i2 (some (.z, y))) := by
  unfold Tg.put
  dsimp only
  rw [if_pos ⟨rfl, fun i hi => by
    simp only [List.mem_cons, List.not_mem_nil, or_false] at hi
    rcases hi with rfl | rfl <;> assumption⟩]
  simp [setE]
theorem filter_one (q : Nat) : ∀ c, q < c → (List.range c).filter (fun p => decide (p = q)) = [q]
  | 0, h => by omega
  | c + 1, h => by
    rw [List.range_succ, List.filter_append]
    by_cases hq : q < c
    · rw [filter_one q c hq, List.filter_eq_nil_iff.mpr (fun x hx => by
        simp only [List.mem_singleton] at hx
        simp only [decide_eq_true_eq]
        omega)]
      rfl
    · have e : q = c := by omega
      subst e
      rw [List.filter_eq_nil_iff.mpr (fun x hx => by
        have := List.mem_range.mp hx
        simp only [decide_eq_true_eq]
        omega)]
      simp
theorem fListR2_i {i j : Int} (h : -4611686018427387904 ≤ i ∧ i < 4611686018427387904 ∧ -4611686018427387904 ≤ j ∧ j < 4611686018427387904 ∧ (j - i).toNat ≤ 16777216) : fListR2 (.int i) (.int j) = .val (.lst (rng i (j - i).toNat)) := if_pos (by simpa using h)
theorem cut_hi {α : Type} (xs : List α) (c : Nat) (h : c ≤ xs.length) : cutG xs none (some (c : Int)) = xs.take c := by
  unfold cutG
  rw [HT.sIx_nat, Nat.min_eq_left h]
  show (xs.drop 0).take (c - 0) = _
  simp
theorem cut_lo {α : Type} (xs : List α) (c : Nat) (h : c ≤ xs.length) : cutG xs (some (c : Int)) none = xs.drop c := by
  unfold cutG
  rw [HT.sIx_nat, Nat.min_eq_left h]
  show (xs.drop c).take (xs.length - c) = _
  rw [List.take_of_length_le (by simp)]
/-! ### the first item that stands a test is handed back -/
theorem loop_find {k : Nat} {mb : MS} (P : Nat → Bool) : ∀ (is : List Nat) {env : Env}, k < env.length → (∀ i ∈ is, ∀ c, mb ((env.set k c).set k (some (.z, .int (i : Int)))) = if P i = true then .ret (.int (i : Int)) else .next ((env.set k c).set k (some (.z, .int (i : Int))))) →
    ∃ e, mLoop (.nm k) mb (is.map fun (i : Nat) => D.int (i : Int)) env = match is.find? P with
      | some q => .ret (.int (q : Int))
      | none => .next e
  | [], env, _, _ => ⟨env, rfl⟩
  | i :: is, env, hk, h => by
    have h1 := h i (by simp) (env[k]?.getD none)
    have e0 : (env.set k (env[k]?.getD none)) = env := by
      refine List.ext_getElem? fun j => ?_
      by_cases e : k = j
      · subst e
        rw [List.getElem?_set_self hk]
        cases hq : env[k]? with
        | none => rw [List.getElem?_eq_none_iff] at hq; omega
        | some s => rfl
      · rw [List.getElem?_set_ne e]
    rw [e0] at h1
    rw [List.map_cons, List.find?_cons]
    unfold mLoop Tg.put
    dsimp only
    rw [if_pos hk]
    dsimp only
    rw [h1]
    cases hp : P i with
    | true => exact ⟨env, by rw [if_pos rfl]; rfl⟩
    | false =>
      rw [if_neg (by decide)]
      obtain ⟨e, he⟩ := loop_find P is (env := env.set k (some (.z, .int (i : Int)))) (by rw [List.length_set]; exact hk) (fun j hj c => by
        have := h j (by simp [hj]) c
        simpa only [List.set_set] using this)
      exact ⟨e, he⟩
theorem rg_down : ∀ e : Fin 1001, PySem.Builtin.Range.small (((e.val : Nat) : Int) - 1) (-1) (-1) = true ∧ PySem.Builtin.Range.rangeSize (((e.val : Nat) : Int) - 1) (-1) (-1) = ((e.val : Nat) : Int) := by decide +kernel
theorem rng3_down (e : Nat) : rng3 ((e : Int) - 1) (-1) e = ((List.range e).reverse).map fun (i : Nat) => D.int (i : Int) := by
  unfold rng3
  refine List.ext_getElem (by simp) fun j h1 h2 => ?_
  simp only [List.getElem_map, List.getElem_range, List.getElem_reverse, List.length_range]
  congr 1
  simp at h1
  omega
theorem fRng3_down {e : Nat} (h : e ≤ 1000) : fRng3 [.int ((e : Int) - 1), .int (-1), .int (-1)] = .items (((List.range e).reverse).map fun (i : Nat) => D.int (i : Int)) := by
  obtain ⟨h1, h2⟩ := rg_down ⟨e, by omega⟩
  dsimp only at h1 h2
  have h3 : (PySem.Builtin.Range.rangeSize ((e : Int) - 1) (-1) (-1)).toNat = e := by rw [h2, Int.toNat_natCast]
  unfold fRng3
  dsimp only
  rw [if_pos ⟨by decide, by decide, h1, by rw [h3]; exact h2⟩, h3, rng3_down]
theorem fListR3_down {e : Nat} (h : e ≤ 1000) : fListR3 [.int ((e : Int) - 1), .int (-1), .int (-1)] = .val (.lst (((List.range e).reverse).map fun (i : Nat) => D.int (i : Int))) := by
  obtain ⟨h1, h2⟩ := rg_down ⟨e, by omega⟩
  dsimp only at h1 h2
  have h3 : (PySem.Builtin.Range.rangeSize ((e : Int) - 1) (-1) (-1)).toNat = e := by rw [h2, Int.toNat_natCast]
  unfold fListR3
  dsimp only
  rw [if_pos ⟨by decide, by decide, h1, by rw [h3]; exact h2, by omega⟩, h3, rng3_down]
theorem rng_nat {b n : Nat} : rng (b : Int) n = ((List.range n).map (b + ·)).map fun (i : Nat) => D.int (i : Int) := by
  unfold rng
  rw [List.map_map]
  refine List.map_congr_left fun i _ => ?_
  simp
theorem fListR1_nat {n : Nat} (h : n ≤ 100000) : fListR1 (.int (n : Int)) = .val (.lst ((List.range n).map fun (i : Nat) => D.int (i : Int))) := by
  have : fListR1 (.int (n : Int)) = fListR2 (.int 0) (.int (n : Int)) := rfl
  rw [this, fListR2_i (by omega)]
  have e : ((n : Int) - 0).toNat = n := by omega
  rw [e]
  have := @rng_nat 0 n
  have e0 : ((0 : Nat) : Int) = 0 := rfl
  rw [e0] at this
  rw [this]
  simp
theorem fListR2_nat {b n : Nat} (h : n ≤ 100000) (hb : b ≤ n) : fListR2 (.int (b : Int)) (.int (n : Int)) = .val (.lst (((List.range (n - b)).map (b + ·)).map fun (i : Nat) => D.int (i : Int))) := by
  rw [fListR2_i (by omega)]
  have e : ((n : Int) - (b : Int)).toNat = n - b := by omega
  rw [e, rng_nat]
/-! ### lists of the frame's own, walked; lent -/
theorem forO_next {i : Nat} {t : Tg} {mb : MS} {env e3 : Env} {ds : List D} (he : env[i]? = some (some (.l .n, .lst ds))) (e2 : PySem.Addr → Env) (h : ∀ b, mLoop t mb ds (env.set i (some (.z, .adr b))) = .next (e2 b)) (hi : ∀ b, (e2 b)[i]? = some (some (.z, .adr b))) (hs : ∀ b, (e2 b).set i (some (.l .n, .lst ds)) = e3) : mForO i t mb env = .next e3 := by
  unfold mForO
  rw [he]
  dsimp only
  refine allA_of fun b => ?_
  rw [h b]
  show backO.go i ds b (e2 b) .next = _
  unfold backO.go
  rw [hi b]
  dsimp only
  rw [if_pos rfl, hs b]
theorem forO_ret {i : Nat} {t : Tg} {mb : MS} {env : Env} {ds : List D} {d : D} (he : env[i]? = some (some (.l .n, .lst ds))) (h : ∀ b, mLoop t mb ds (env.set i (some (.z, .adr b))) = .ret d) : mForO i t mb env = .ret d := by
  unfold mForO
  rw [he]
  dsimp only
  refine allA_of fun b => ?_
  rw [h b]
  rfl
/-- a list within, lent for the rest of a block, a place of it put -/
theorem bor_next {i k : Nat} {j : Int} {p : Nat} {mi : ME} {rest : MS} {env e3 : Env} {r : Fr} {Ds ds ds' : List D} (hj : mi (dOf env) = .val (.int j)) (h0 : env[i]? = some (some (.l (.l r), .lst Ds))) (h1 : ixN Ds.length j = some p) (h2 : Ds[p]? = some (.lst ds)) (hk : k < env.length) (hik : i ≠ k)
    (e2 : PySem.Addr → PySem.Addr → Env) (h : ∀ b a, rest ((env.set i (some (.z, .adr b))).set k (some (.la a r, .lst ds))) = .next (e2 b a)) (hb : ∀ b a, (e2 b a)[i]? = some (some (.z, .adr b))) (ha : ∀ b a, (e2 b a)[k]? = some (some (.la a r, .lst ds')))
    (he : ∀ b a, ((e2 b a).set k none).set i (some (.l (.l r), .lst (Ds.set p (.lst ds')))) = e3) : mBor i k (mSnoc mNil mi) rest env = .next e3 := by
  unfold mBor mSnoc mNil
  dsimp only
  rw [hj]
  have hd : dig (.lst Ds) [j] = some (.lst ds) := by simp only [dig, atI, h1, Option.bind, h2]
  have hr : digF 0 (.l (.l r)) [j] = some (.l r) := by simp only [digF]
  simp only [List.nil_append, intsD, h0, hd, hr]
  rw [if_pos ⟨hk, hik⟩]
  refine allB_of fun b a => ?_
  rw [h b a]
  show fillO.go i k [j] (.l (.l r)) r (.lst Ds) b a (e2 b a) .next = _
  unfold fillO.go
  rw [hb b a, ha b a]
  dsimp only
  rw [if_pos ⟨rfl, rfl, frEq_self r⟩]
  have hbu : bury (.lst Ds) [j] (.lst ds') = .lst (Ds.set p (.lst ds')) := by simp only [bury, atI, h1, Option.bind, h2, setI]
  rw [hbu, he b a]
/-! ### a place put, by rules -/
def put0 (o : Option (Option (Fr × D))) (i : Nat) (r : Fr) (d : D) (k : Int) (env : Env) : OS := match o with
  | some (some (.l r', .lst ds)) => if frEq r' r = true then (match L2.ixN ds.length k with
    | some j => .next (env.set i (some (.l r', .lst (ds.set j d))))
    | none => .stuck) else .stuck
  | some (some (.la a r', .lst ds)) => if frEq r' r = true then (match L2.ixN ds.length k with
    | some j => .next (env.set i (some (.la a r', .lst (ds.set j d))))
    | none => .stuck) else .stuck
  | _ => .stuck
def putK (o : OE) (p : OA) (q : OE) (i : Nat) (r : Fr) (env : Env) : OS := onE o env fun d => match p with
  | .vals jd => (match intsD jd with
    | some js => (match cellAt env i js with
      | some (r', ds) => if frEq r' r = true then (match q with
        | .val (.int k) => (match L2.ixN ds.length k with
          | some j => .next (putAt env i js (ds.set j d))
          | none => .stuck)
        | _ => .stuck) else .stuck
      | none => .stuck)
    | none => .stuck)
  | _ => .stuck
theorem mPut_ap {b : Bool} {i : Nat} {mj : MA} {r : Fr} {mi me : ME} {env : Env} : mPut b i mj r mi me env = putK (me (vw b env)) (mj (dOf env)) (mi (dOf env)) i r env := id rfl
theorem putK_0 {i : Nat} {r : Fr} {d : D} {k : Int} {env : Env} : putK (.val d) (.vals []) (.val (.int k)) i r env = put0 env[i]? i r d k env := by
  unfold putK put0 cellAt putAt onE
  cases env[i]? with
  | none => rfl
  | some s => cases s with
    | none => rfl
    | some p =>
      obtain ⟨r0, d0⟩ := p
      cases r0 <;> cases d0 <;> rfl
theorem put0_l {i : Nat} {r : Fr} {ds : List D} {d : D} {k : Int} {env : Env} (h : 0 ≤ k ∧ k < (ds.length : Int)) : put0 (some (some (.l r, .lst ds))) i r d k env = .next (env.set i (some (.l r, .lst (ds.set k.toNat d)))) := by
  unfold put0
  dsimp only
  rw [if_pos (frEq_self r)]
  unfold L2.ixN
  rw [if_pos h.1, if_pos h.2]
theorem put0_la {i : Nat} {a : PySem.Addr} {r : Fr} {ds : List D} {d : D} {k : Int} {env : Env} (h : 0 ≤ k ∧ k < (ds.length : Int)) : put0 (some (some (.la a r, .lst ds))) i r d k env = .next (env.set i (some (.la a r, .lst (ds.set k.toNat d)))) := by
  unfold put0
  dsimp only
  rw [if_pos (frEq_self r)]
  unfold L2.ixN
  rw [if_pos h.1, if_pos h.2]
/-! ### places deep within, by rules -/
def mutQ (o : Option D) (q : Option Fr) (d0 : D) (r0 : Fr) (js : List Int) (i : Nat) (r : Fr) (p : OE) (f : List D → D → Option (List D)) (env : Env) : OS := match o, q with
  | some (.lst ds), some (.l r') => if frEq r' r = true then onE p env (fun d => match f ds d with
    | some ds' => .next (env.set i (some (r0, bury d0 js (.lst ds'))))
    | none => .stuck) else .stuck
  | some (.lst ds), some (.la _ r') => if frEq r' r = true then onE p env (fun d => match f ds d with
    | some ds' => .next (env.set i (some (r0, bury d0 js (.lst ds'))))
    | none => .stuck) else .stuck
  | _, _ => .stuck
def mutP (o : Option (Option (Fr × D))) (js : List Int) (i : Nat) (r : Fr) (p : OE) (f : List D → D → Option (List D)) (env : Env) : OS := match o with
  | some (some (r0, d0)) => mutQ (dig d0 js) (digF 0 r0 js) d0 r0 js i r p f env
  | _ => .stuck
def mutI (o : Option (List Int)) (b : Bool) (i : Nat) (r : Fr) (me : ME) (f : List D → D → Option (List D)) (env : Env) : OS := match o with
  | some js => mutP env[i]? js i r (me (vw b env)) f env
  | none => .stuck
theorem mutK_p {i : Nat} {r : Fr} {x : D} {jd : List D} {b : Bool} {me : ME} {f : List D → D → Option (List D)} {env : Env} : mutK (.vals (x :: jd)) b i r me f env = mutI (intsD (x :: jd)) b i r me f env := by
  unfold mutK mutI
  dsimp only
  cases intsD (x :: jd) with
  | none => rfl
  | some js =>
    dsimp only
    unfold cellAt putAt mutP
    cases env[i]? with
    | none => rfl
    | some s => cases s with
      | none => rfl
      | some p =>
        obtain ⟨r0, d0⟩ := p
        dsimp only
        unfold mutQ
        cases dig d0 js with
        | none => rfl
        | some e => cases e <;> (cases digF 0 r0 js with
          | none => rfl
          | some q => cases q <;> rfl)
theorem mutI_s {js : List Int} {i : Nat} {r : Fr} {b : Bool} {me : ME} {f : List D → D → Option (List D)} {env : Env} : mutI (some js) b i r me f env = mutP env[i]? js i r (me (vw b env)) f env := id rfl
theorem mutP_s {js : List Int} {i : Nat} {r r0 : Fr} {d0 : D} {p : OE} {f : List D → D → Option (List D)} {env : Env} : mutP (some (some (r0, d0))) js i r p f env = mutQ (dig d0 js) (digF 0 r0 js) d0 r0 js i r p f env := id rfl
theorem mutQ_app {ds : List D} {d0 d : D} {r0 r : Fr} {js : List Int} {i : Nat} {env : Env} (h : ds.length < 100000) : mutQ (some (.lst ds)) (some (.l r)) d0 r0 js i r (.val d) fApp env = .next (env.set i (some (r0, bury d0 js (.lst (ds ++ [d]))))) := by
  simp [mutQ, frEq_self, onE, fApp, h]
theorem mutQ_clr {ds : List D} {d0 d : D} {r0 r : Fr} {js : List Int} {i : Nat} {env : Env} : mutQ (some (.lst ds)) (some (.l r)) d0 r0 js i r (.val d) fClr env = .next (env.set i (some (r0, bury d0 js (.lst [])))) := by
  simp [mutQ, frEq_self, onE, fClr]
def putQ (o : Option D) (q : Option Fr) (d0 : D) (r0 : Fr) (js : List Int) (i : Nat) (r : Fr) (d : D) (k : Int) (env : Env) : OS := match o, q with
  | some (.lst ds), some (.l r') => if frEq r' r = true then (match L2.ixN ds.length k with
    | some j => .next (env.set i (some (r0, bury d0 js (.lst (ds.set j d)))))
    | none => .stuck) else .stuck
  | some (.lst ds), some (.la _ r') => if frEq r' r = true then (match L2.ixN ds.length k with
    | some j => .next (env.set i (some (r0, bury d0 js (.lst (ds.set j d)))))
    | none => .stuck) else .stuck
  | _, _ => .stuck
def putP (o : Option (Option (Fr × D))) (js : List Int) (i : Nat) (r : Fr) (d : D) (k : Int) (env : Env) : OS := match o with
  | some (some (r0, d0)) => putQ (dig d0 js) (digF 0 r0 js) d0 r0 js i r d k env
  | _ => .stuck
def putI (o : Option (List Int)) (i : Nat) (r : Fr) (d : D) (k : Int) (env : Env) : OS := match o with
  | some js => putP env[i]? js i r d k env
  | none => .stuck
theorem putK_p {i : Nat} {r : Fr} {x d : D} {jd : List D} {k : Int} {env : Env} : putK (.val d) (.vals (x :: jd)) (.val (.int k)) i r env = putI (intsD (x :: jd)) i r d k env := by
  unfold putK putI onE
  dsimp only
  cases intsD (x :: jd) with
  | none => rfl
  | some js =>
    dsimp only
    unfold cellAt putAt putP
    cases env[i]? with
    | none => rfl
    | some s => cases s with
      | none => rfl
      | some p =>
        obtain ⟨r0, d0⟩ := p
        dsimp only
        unfold putQ
        cases dig d0 js with
        | none => rfl
        | some e => cases e <;> (cases digF 0 r0 js with
          | none => rfl
          | some q => cases q <;> rfl)
theorem putI_s {js : List Int} {i : Nat} {r : Fr} {d : D} {k : Int} {env : Env} : putI (some js) i r d k env = putP env[i]? js i r d k env := id rfl
theorem putP_s {js : List Int} {i : Nat} {r r0 : Fr} {d0 d : D} {k : Int} {env : Env} : putP (some (some (r0, d0))) js i r d k env = putQ (dig d0 js) (digF 0 r0 js) d0 r0 js i r d k env := id rfl
theorem putQ_ok {ds : List D} {d0 d : D} {r0 r : Fr} {js : List Int} {i : Nat} {k : Int} {env : Env} (h : 0 ≤ k ∧ k < (ds.length : Int)) : putQ (some (.lst ds)) (some (.l r)) d0 r0 js i r d k env = .next (env.set i (some (r0, bury d0 js (.lst (ds.set k.toNat d))))) := by
  unfold putQ
  dsimp only
  rw [if_pos (frEq_self r)]
  unfold L2.ixN
  rw [if_pos h.1, if_pos h.2]
theorem mSnoc_ap {mj : MA} {mb : ME} {ev : Ev} : mSnoc mj mb ev = (match mj ev with
  | .vals js => (match mb ev with
    | .val d => .vals (js ++ [d])
    | _ => .stuck)
  | o => o) := id rfl
def snocK (o : OA) (p : OE) : OA := match o with
  | .vals js => (match p with
    | .val d => .vals (js ++ [d])
    | _ => .stuck)
  | o => o
theorem mSnoc_k {mj : MA} {mb : ME} {ev : Ev} : mSnoc mj mb ev = snocK (mj ev) (mb ev) := id rfl
theorem snocK_v {js : List D} {d : D} : snocK (.vals js) (.val d) = .vals (js ++ [d]) := id rfl
theorem snocK_0 {d : D} : snocK (.vals []) (.val d) = .vals [d] := id rfl
theorem snocK_1 {x d : D} : snocK (.vals [x]) (.val d) = .vals [x, d] := id rfl
theorem snocK_2 {x y d : D} : snocK (.vals [x, y]) (.val d) = .vals [x, y, d] := id rfl
theorem intsD_n : intsD [] = some [] := id rfl
def consO (j : Int) (o : Option (List Int)) : Option (List Int) := match o with
  | some js => some (j :: js)
  | none => none
theorem intsD_c {j : Int} {l : List D} : intsD (.int j :: l) = consO j (intsD l) := by
  rw [intsD]
  cases intsD l <;> rfl
theorem consO_s {j : Int} {js : List Int} : consO j (some js) = some (j :: js) := id rfl
def digK (o : Option D) (js : List Int) : Option D := match o with
  | some d => dig d js
  | none => none
theorem dig_n {d : D} : dig d [] = some d := by cases d <;> rfl
theorem dig_l {ds : List D} {j : Int} {js : List Int} : dig (.lst ds) (j :: js) = digK (atI ds j) js := by
  rw [dig]
  cases atI ds j <;> rfl
theorem dig_t {ds : List D} {j : Int} {js : List Int} : dig (.tup ds) (j :: js) = digK (atI ds j) js := by
  rw [dig]
  cases atI ds j <;> rfl
theorem digK_s {d : D} {js : List Int} : digK (some d) js = dig d js := id rfl
def digFK (n : Nat) (o : Option Fr) (js : List Int) : Option Fr := match o with
  | some r => digF n r js
  | none => none
theorem digF_n {n : Nat} {r : Fr} : digF n r [] = some r := by cases r <;> rfl
theorem digF_l {n : Nat} {r : Fr} {j : Int} {js : List Int} : digF n (.l r) (j :: js) = digF n r js := by rw [digF]
theorem digF_t {n : Nat} {rs : List Fr} {j : Int} {js : List Int} : digF n (.t rs) (j :: js) = digFK n (atI rs j) js := by
  rw [digF]
  cases atI rs j <;> rfl
theorem digFK_s {n : Nat} {r : Fr} {js : List Int} : digFK n (some r) js = digF n r js := id rfl
theorem atI_0 {α : Type} {x : α} {l : List α} : atI (x :: l) 0 = some x := by
  unfold atI L2.ixN
  rw [if_pos (by decide), if_pos (by simp only [List.length_cons]; omega)]
  rfl
theorem atI_1 {α : Type} {x y : α} {l : List α} : atI (x :: y :: l) 1 = some y := by
  unfold atI L2.ixN
  rw [if_pos (by decide), if_pos (by simp only [List.length_cons]; omega)]
  rfl
theorem atI_2 {α : Type} {x y z : α} {l : List α} : atI (x :: y :: z :: l) 2 = some z := by
  unfold atI L2.ixN
  rw [if_pos (by decide), if_pos (by simp only [List.length_cons]; omega)]
  rfl
theorem atI_m1 {α : Type} {x : α} {l : List α} : atI (x :: l) (-1) = some ((x :: l).getLast (by simp)) := by
  unfold atI L2.ixN
  rw [if_neg (by decide), if_pos (by simp only [List.length_cons]; omega)]
  show (x :: l)[_]? = _
  rw [List.getLast_eq_getElem, List.getElem?_eq_getElem (by simp only [List.length_cons]; omega)]
  congr 2
  simp only [List.length_cons]
  omega
theorem bury_n {d y : D} : bury d [] y = y := by cases d <;> rfl
theorem setI_0 {α : Type} {x y : α} {l : List α} : setI (x :: l) 0 y = y :: l := by
  unfold setI L2.ixN
  rw [if_pos (by decide), if_pos (by simp only [List.length_cons]; omega)]
  rfl
theorem setI_1 {α : Type} {x z y : α} {l : List α} : setI (x :: z :: l) 1 y = x :: y :: l := by
  unfold setI L2.ixN
  rw [if_pos (by decide), if_pos (by simp only [List.length_cons]; omega)]
  rfl
theorem setI_2 {α : Type} {x z w y : α} {l : List α} : setI (x :: z :: w :: l) 2 y = x :: z :: y :: l := by
  unfold setI L2.ixN
  rw [if_pos (by decide), if_pos (by simp only [List.length_cons]; omega)]
  rfl
theorem bury_t0 {x y : D} {l : List D} {js : List Int} : bury (.tup (x :: l)) (0 :: js) y = .tup (bury x js y :: l) := by rw [bury, atI_0]; simp only [setI_0]
theorem bury_t1 {x z y : D} {l : List D} {js : List Int} : bury (.tup (x :: z :: l)) (1 :: js) y = .tup (x :: bury z js y :: l) := by rw [bury, atI_1]; simp only [setI_1]
theorem bury_t2 {x z w y : D} {l : List D} {js : List Int} : bury (.tup (x :: z :: w :: l)) (2 :: js) y = .tup (x :: z :: bury w js y :: l) := by rw [bury, atI_2]; simp only [setI_2]
theorem bury_l0 {x y : D} {l : List D} {js : List Int} : bury (.lst (x :: l)) (0 :: js) y = .lst (bury x js y :: l) := by rw [bury, atI_0]; simp only [setI_0]
theorem bury_l1 {x z y : D} {l : List D} {js : List Int} : bury (.lst (x :: z :: l)) (1 :: js) y = .lst (x :: bury z js y :: l) := by rw [bury, atI_1]; simp only [setI_1]
end U

noncomputable section
namespace Lw
open PySem L2 U
open PySem.W (Frag)
def top (i : Nat) : Stmt := PySem.Challenge.pw_ullage_k72_blocks_of_nodes.main.body.getD i (.Pass ⟨0, 0, 0, 0⟩)
abbrev s__law_cell : Stmt := top 6
abbrev N__law_cell : List Str := ["_law_script", "_law_place", "_law_seed", "_law_cell_here"]
abbrev P__law_cell : List Str := ["_law_script", "_law_place"]
theorem sc__law_cell : FnScope N__law_cell P__law_cell (defScope s__law_cell) := ⟨rfl, rfl, rfl, by decide +kernel, rfl, by decide +kernel, by decide +kernel⟩
theorem nd__law_cell : N__law_cell.Nodup := sc__law_cell.nd
abbrev s__law_mix : Stmt := top 7
abbrev N__law_mix : List Str := ["_law_cell_here", "_law_k", "_law_one", "_law_two"]
abbrev P__law_mix : List Str := ["_law_cell_here", "_law_k"]
theorem sc__law_mix : FnScope N__law_mix P__law_mix (defScope s__law_mix) := ⟨rfl, rfl, rfl, by decide +kernel, rfl, by decide +kernel, by decide +kernel⟩
theorem nd__law_mix : N__law_mix.Nodup := sc__law_mix.nd
abbrev s__law_row : Stmt := top 8
abbrev N__law_row : List Str := ["_law_script", "_law_place", "_law_sizes", "_law_cell_here", "_law_left", "_law_some", "_law_k", "_law_other"]
abbrev P__law_row : List Str := ["_law_script", "_law_place", "_law_sizes"]
theorem sc__law_row : FnScope N__law_row P__law_row (defScope s__law_row) := ⟨rfl, rfl, rfl, by decide +kernel, rfl, by decide +kernel, by decide +kernel⟩
theorem nd__law_row : N__law_row.Nodup := sc__law_row.nd
abbrev s__law_empties : Stmt := top 9
abbrev N__law_empties : List Str := ["_law_script", "_law_place", "_law_most", "_law_some", "_law_found", "_law_k", "_law_here"]
abbrev P__law_empties : List Str := ["_law_script", "_law_place", "_law_most"]
theorem sc__law_empties : FnScope N__law_empties P__law_empties (defScope s__law_empties) := ⟨rfl, rfl, rfl, by decide +kernel, rfl, by decide +kernel, by decide +kernel⟩
theorem nd__law_empties : N__law_empties.Nodup := sc__law_empties.nd
abbrev s__law_fan : Stmt := top 13
abbrev N__law_fan : List Str := ["_law_script", "_law_place"]
abbrev P__law_fan : List Str := ["_law_script", "_law_place"]
theorem sc__law_fan : FnScope N__law_fan P__law_fan (defScope s__law_fan) := ⟨rfl, rfl, rfl, by decide +kernel, rfl, by decide +kernel, by decide +kernel⟩
theorem nd__law_fan : N__law_fan.Nodup := sc__law_fan.nd
abbrev s__law_counts : Stmt := top 14
abbrev N__law_counts : List Str := ["_law_pages", "_law_fan_here", "_law_found"]
abbrev P__law_counts : List Str := ["_law_pages", "_law_fan_here"]
theorem sc__law_counts : FnScope N__law_counts P__law_counts (defScope s__law_counts) := ⟨rfl, rfl, rfl, by decide +kernel, rfl, by decide +kernel, by decide +kernel⟩
theorem nd__law_counts : N__law_counts.Nodup := sc__law_counts.nd
abbrev s__law_reach : Stmt := top 15
abbrev N__law_reach : List Str := ["_law_pages", "_law_fan_here", "_law_level", "_law_place", "_law_wide", "_law_k"]
abbrev P__law_reach : List Str := ["_law_pages", "_law_fan_here", "_law_level", "_law_place"]
theorem sc__law_reach : FnScope N__law_reach P__law_reach (defScope s__law_reach) := ⟨rfl, rfl, rfl, by decide +kernel, rfl, by decide +kernel, by decide +kernel⟩
theorem nd__law_reach : N__law_reach.Nodup := sc__law_reach.nd
abbrev s__law_block : Stmt := top 10
abbrev N__law_block : List Str := ["_law_empties_here", "_law_ahead", "_law_behind", "_law_longest", "_law_here", "_law_empty"]
abbrev P__law_block : List Str := ["_law_empties_here"]
theorem sc__law_block : FnScope N__law_block P__law_block (defScope s__law_block) := ⟨rfl, rfl, rfl, by decide +kernel, rfl, by decide +kernel, by decide +kernel⟩
theorem nd__law_block : N__law_block.Nodup := sc__law_block.nd
abbrev s__law_due : Stmt := top 16
abbrev N__law_due : List Str := ["_law_empties_here", "_law_fan_here", "_law_counts_here", "_law_found", "_law_level", "_law_row_here", "_law_place", "_law_low", "_law_high"]
abbrev P__law_due : List Str := ["_law_empties_here", "_law_fan_here"]
theorem sc__law_due : FnScope N__law_due P__law_due (defScope s__law_due) := ⟨rfl, rfl, rfl, by decide +kernel, rfl, by decide +kernel, by decide +kernel⟩
theorem nd__law_due : N__law_due.Nodup := sc__law_due.nd
abbrev s_page_block : Stmt := top 2
abbrev N_page_block : List Str := ["empty", "here"]
abbrev P_page_block : List Str := ["empty"]
theorem sc_page_block : FnScope N_page_block P_page_block (defScope s_page_block) := ⟨rfl, rfl, rfl, by decide +kernel, rfl, by decide +kernel, by decide +kernel⟩
theorem nd_page_block : N_page_block.Nodup := sc_page_block.nd
abbrev s_joined : Stmt := top 1
abbrev N_joined : List Str := ["one", "other", "ahead", "behind"]
abbrev P_joined : List Str := ["one", "other"]
theorem sc_joined : FnScope N_joined P_joined (defScope s_joined) := ⟨rfl, rfl, rfl, by decide +kernel, rfl, by decide +kernel, by decide +kernel⟩
theorem nd_joined : N_joined.Nodup := sc_joined.nd
abbrev s_all_joined : Stmt := top 3
abbrev N_all_joined : List Str := ["some", "found", "block"]
abbrev P_all_joined : List Str := ["some"]
theorem sc_all_joined : FnScope N_all_joined P_all_joined (defScope s_all_joined) := ⟨rfl, rfl, rfl, by decide +kernel, rfl, by decide +kernel, by decide +kernel⟩
theorem nd_all_joined : N_all_joined.Nodup := sc_all_joined.nd
abbrev s_blocks : Stmt := top 4
abbrev N_blocks : List Str := ["empties", "fan", "found", "level", "empty", "at"]
abbrev P_blocks : List Str := ["empties", "fan"]
theorem sc_blocks : FnScope N_blocks P_blocks (defScope s_blocks) := ⟨rfl, rfl, rfl, by decide +kernel, rfl, by decide +kernel, by decide +kernel⟩
theorem nd_blocks : N_blocks.Nodup := sc_blocks.nd
abbrev s__law_whole : Stmt := top 11
abbrev N__law_whole : List Str := ["_law_thing"]
abbrev P__law_whole : List Str := ["_law_thing"]
theorem sc__law_whole : FnScope N__law_whole P__law_whole (defScope s__law_whole) := ⟨rfl, rfl, rfl, by decide +kernel, rfl, by decide +kernel, by decide +kernel⟩
theorem nd__law_whole : N__law_whole.Nodup := sc__law_whole.nd
abbrev s__law_is_block : Stmt := top 12
abbrev N__law_is_block : List Str := ["_law_found", "_law_due_here", "_law_one"]
abbrev P__law_is_block : List Str := ["_law_found", "_law_due_here"]
theorem sc__law_is_block : FnScope N__law_is_block P__law_is_block (defScope s__law_is_block) := ⟨rfl, rfl, rfl, by decide +kernel, rfl, by decide +kernel, by decide +kernel⟩
theorem nd__law_is_block : N__law_is_block.Nodup := sc__law_is_block.nd
abbrev s__law_right : Stmt := top 17
abbrev N__law_right : List Str := ["_law_found", "_law_due_here", "_law_row_here", "_law_other", "_law_one", "_law_block_here"]
abbrev P__law_right : List Str := ["_law_found", "_law_due_here"]
theorem sc__law_right : FnScope N__law_right P__law_right (defScope s__law_right) := ⟨rfl, rfl, rfl, by decide +kernel, rfl, by decide +kernel, by decide +kernel⟩
theorem nd__law_right : N__law_right.Nodup := sc__law_right.nd
abbrev s_law : Stmt := top 18
abbrev N_law : List Str := ["_law_script", "_law_empties_here", "_law_handed", "_law_fan_here", "_law_due_here", "_law_found", "_law_row_here", "_law_at"]
abbrev P_law : List Str := ["_law_script"]
theorem sc_law : FnScope N_law P_law (defScope s_law) := ⟨rfl, rfl, rfl, by decide +kernel, rfl, by decide +kernel, by decide +kernel⟩
theorem nd_law : N_law.Nodup := sc_law.nd
def l1__law_cell : MS :=
    (mAsg false 2 .n (m2 fMod (m2 fAdd (m2 fAdd (m2 fMul (mVar 2) (mC (.int 48271))) (m2 fMod (mVar 3) (mC (.int 1000003)))) (mC (.int 1))) (mC (.int 2147483647))))
def b__law_cell : MS :=
    (mSeq (mIf (m2 fLt (mVar 1) (mCall fLen (mCons (mVar 0) mNil))) (mRet (mN (m2 fIdx (mVar 0) (mVar 1)))) mNext)
    (mSeq (mAsg false 2 .n (mC (.int 5)))
    (mSeq (mFor true (mIt1 fItL (mSl fSl (mVar 0) (mC .non) (mInt (mC (.int 63))))) (.nm 3) l1__law_cell)
    (mRet (m2 fMod (m2 fAdd (mVar 2) (m2 fMul (mC (.int 7919)) (mVar 1))) (mC (.int 1000003)))))))
def m__law_cell : List D → OE := runF Fr.n 2 4 b__law_cell
def b__law_mix : MS :=
    (mSeq (mAsg false 2 .n (m2 fMod (m2 fPow (m2 fAdd (m2 fAdd (m2 fMod (mVar 0) (mC (.int 2147483629))) (m2 fMul (mC (.int 1013)) (mVar 1))) (mC (.int 7919))) (mC (.int 3))) (mC (.int 2147483647))))
    (mSeq (mAsg false 3 .n (m2 fMod (m2 fAdd (m2 fAdd (m2 fMul (mVar 2) (mC (.int 40699))) (m2 fMul (m2 fMul (mC (.int 3793)) (mVar 1)) (mVar 1))) (mC (.int 11))) (mC (.int 2147483399))))
    (mRet (m2 fDiv (mVar 3) (mC (.int 101))))))
def m__law_mix : List D → OE := runF Fr.n 2 4 b__law_mix
def l1__law_row : MS :=
    (mIf (m2 fLt (mVar 3) (m2 fPow (mC (.int 10)) (mC (.int 18)))) (mMut false 5 mNil .n (m2 fMod (mCall m__law_mix (mCons (mVar 3) (mCons (mVar 6) mNil))) (m2 fIdx (mVar 2) (mVar 6))) fApp) (mIf (m2 fGt (mVar 4) (mC (.int 0))) (mSeq (mMut false 5 mNil .n (m2 fMod (mVar 4) (m2 fIdx (mVar 2) (mVar 6))) fApp)
    (mAsg false 4 .n (m2 fDiv (mVar 4) (m2 fIdx (mVar 2) (mVar 6))))) (mSeq (mAsg false 7 .n (mCall m__law_cell (mCons (mVar 0) (mCons (m2 fMod (m2 fAdd (m2 fAdd (mVar 1) (mC (.int 1))) (mVar 6)) (mC (.int 63))) mNil))))
    (mMut false 5 mNil .n (m2 fMod (mCall m__law_mix (mCons (mVar 7) (mCons (mVar 6) mNil))) (m2 fIdx (mVar 2) (mVar 6))) fApp))))
def b__law_row : MS :=
    (mSeq (mAsg false 3 .n (mCall m__law_cell (mCons (mVar 0) (mCons (mVar 1) mNil))))
    (mSeq (mAsg true 4 .z (mVar 3))
    (mSeq (mAsg false 5 (.l .n) (mLst mNil))
    (mSeq (mFor false (mIter fRng (mCons (mCall fLen (mCons (mVar 2) mNil)) mNil)) (.nm 6) l1__law_row)
    (mRetV 5 (.l .n))))))
def m__law_row : List D → OE := runF (Fr.l .n) 3 8 b__law_row
def l1__law_empties : MS :=
    (mSeq (mMut false 4 mNil .n (m2 fEq (m2 fMod (m2 fAdd (mVar 5) (m2 fIdx (mVar 3) (mC (.int 2)))) (mC (.int 2))) (mC (.int 0))) fApp)
    (mAsg false 6 .n (m2 fSub (mVar 6) (mC (.int 1)))))
def l2__law_empties : MS :=
    (mSeq (mAsg false 6 .n (mN (m2 fIdx (mVar 3) (m2 fAdd (mC (.int 3)) (mVar 5)))))
    (mIf (m2 fEq (m2 fIdx (mVar 3) (mC (.int 1))) (mC (.int 3))) (mMut false 4 mNil .n (m2 fEq (m2 fIdx (mVar 3) (mC (.int 2))) (mC (.int 0))) fApp) (mIf (m2 fGt (m2 fIdx (mVar 3) (mC (.int 1))) (mC (.int 3))) (mWhile (mAnd (m2 fLt (mCall fLen (mCons (mVar 4) mNil)) (m2 fIdx (mVar 3) (mC (.int 0)))) (m2 fGe (mVar 6) (mC (.int 0)))) l1__law_empties 1000) (mMut false 4 mNil .n (m2 fGe (mVar 6) (m2 fIdx (mLst (mCons (mC (.int 6)) (mCons (mC (.int 1)) (mCons (mC (.int 10)) mNil)))) (m2 fIdx (mVar 3) (mC (.int 1))))) fApp))))
def b__law_empties : MS :=
    (mSeq (mAsg false 3 (.l .n) (mCall m__law_row (mCons (mVar 0) (mCons (mVar 1) (mCons (m2 fCat (mLst (mCons (m2 fAdd (mVar 2) (mC (.int 1))) (mCons (mC (.int 6)) (mCons (mC (.int 2)) mNil)))) (m2 fRep (mLst (mCons (mC (.int 12)) mNil)) (mVar 2))) mNil)))))
    (mSeq (mAsg false 4 (.l .n) (mLst mNil))
    (mSeq (mFor false (mIter fRng (mCons (m2 fIdx (mVar 3) (mC (.int 0))) mNil)) (.nm 5) l2__law_empties)
    (mRetV 4 (.l .n)))))
def m__law_empties : List D → OE := runF (Fr.l .n) 3 7 b__law_empties
def b__law_fan : MS :=
    (mRet (m2 fAdd (mC (.int 2)) (m2 fIdx (mCall m__law_row (mCons (mVar 0) (mCons (mVar 1) (mCons (mLst (mCons (mC (.int 7)) mNil)) mNil)))) (mC (.int 0)))))
def m__law_fan : List D → OE := runF Fr.n 2 2 b__law_fan
def l1__law_counts : MS :=
    (mMut false 2 mNil .n (m2 fDiv (m2 fSub (m2 fAdd (m2 fIdx (mVar 2) (m1 fNeg (mC (.int 1)))) (mVar 1)) (mC (.int 1))) (mVar 1)) fApp)
def b__law_counts : MS :=
    (mSeq (mIf (m2 fEq (mVar 0) (mC (.int 0))) (mRet (mLst mNil)) mNext)
    (mSeq (mAsg false 2 (.l .n) (mLst (mCons (mN (mVar 0)) mNil)))
    (mSeq (mWhile (m2 fGt (m2 fIdx (mVar 2) (m1 fNeg (mC (.int 1)))) (mC (.int 1))) l1__law_counts 1000)
    (mRetV 2 (.l .n)))))
def m__law_counts : List D → OE := runF (Fr.l .n) 2 3 b__law_counts
def l1__law_reach : MS :=
    (mAsg false 4 .n (m2 fMul (mVar 4) (mVar 1)))
def b__law_reach : MS :=
    (mSeq (mAsg false 4 .n (mC (.int 1)))
    (mSeq (mFor false (mIter fRng (mCons (mVar 2) mNil)) (.nm 5) l1__law_reach)
    (mRet (mN (mTup (mCons (m2 fMul (mVar 3) (mVar 4)) (mCons (mCall fMin2 (mCons (mVar 0) (mCons (m2 fAdd (m2 fMul (mVar 3) (mVar 4)) (mVar 4)) mNil))) mNil)))))))
def m__law_reach : List D → OE := runF Fr.n 4 6 b__law_reach
def l1__law_block : MS :=
    (mAsg false 1 .n (m2 fAdd (mVar 1) (mC (.int 1))))
def l2__law_block : MS :=
    (mAsg false 2 .n (m2 fAdd (mVar 2) (mC (.int 1))))
def l3__law_block : MS :=
    (mSeq (mAsg true 4 .z (m2 fIdx (mLst (mCons (mC (.int 0)) (mCons (m2 fAdd (mVar 4) (mC (.int 1))) mNil))) (mCall fInt (mCons (mVar 5) mNil))))
    (mAsg false 3 .n (mCall fMax2 (mCons (mVar 3) (mCons (mVar 4) mNil)))))
def b__law_block : MS :=
    (mSeq (mAsg false 1 .n (mC (.int 0)))
    (mSeq (mWhile (mAnd (m2 fLt (mVar 1) (mCall fLen (mCons (mVar 0) mNil))) (m2 fIdx (mVar 0) (mVar 1))) l1__law_block 1000)
    (mSeq (mAsg false 2 .n (mC (.int 0)))
    (mSeq (mWhile (mAnd (m2 fLt (mVar 2) (mCall fLen (mCons (mVar 0) mNil))) (m2 fIdx (mVar 0) (m2 fSub (m2 fSub (mCall fLen (mCons (mVar 0) mNil)) (mC (.int 1))) (mVar 2)))) l2__law_block 1000)
    (mSeq (mAsg false 3 .n (mC (.int 0)))
    (mSeq (mAsg false 4 .n (mC (.int 0)))
    (mSeq (mFor true (mIt1 fItL (mVar 0)) (.nm 5) l3__law_block)
    (mRet (mN (mTup (mCons (mCall fLen (mCons (mVar 0) mNil)) (mCons (mVar 1) (mCons (mVar 2) (mCons (mVar 3) mNil))))))))))))))
def m__law_block : List D → OE := runF Fr.n 1 6 b__law_block
def l1__law_due : MS :=
    (mSeq (mAsgTz false [7, 8] (mCall m__law_reach (mCons (mCall fLen (mCons (mVar 0) mNil)) (mCons (mVar 1) (mCons (mVar 4) (mCons (mVar 6) mNil))))))
    (mMut false 5 mNil .n (mCall m__law_block (mCons (mSl fSl (mVar 0) (mInt (mVar 7)) (mInt (mVar 8))) mNil)) fApp))
def l2__law_due : MS :=
    (mSeq (mAsg false 5 (.l .n) (mLst mNil))
    (mSeq (mFor false (mIter fRng (mCons (m2 fIdx (mVar 2) (mVar 4)) mNil)) (.nm 6) l1__law_due)
    (mAppMv 3 5 mNil (.l .n))))
def b__law_due : MS :=
    (mSeq (mAsg false 2 (.l .n) (mCall m__law_counts (mCons (mCall fLen (mCons (mVar 0) mNil)) (mCons (mVar 1) mNil))))
    (mSeq (mAsg false 3 (.l (.l .n)) (mLst mNil))
    (mSeq (mFor false (mIter fRng (mCons (mCall fLen (mCons (mVar 2) mNil)) mNil)) (.nm 4) l2__law_due)
    (mRetV 3 (.l (.l .n))))))
def m__law_due : List D → OE := runF (Fr.l (.l .n)) 2 9 b__law_due
def b_page_block : MS :=
    (mSeq (mAsg false 1 .n (mCall fInt (mCons (mVar 0) mNil)))
    (mRet (mN (mTup (mCons (mC (.int 1)) (mCons (mVar 1) (mCons (mVar 1) (mCons (mVar 1) mNil))))))))
def m_page_block : List D → OE := runF Fr.n 1 2 b_page_block
def b_joined : MS :=
    (mSeq (mAsg true 2 .z (m2 fIdx (mVar 0) (mC (.int 1))))
    (mSeq (mIf (m2 fEq (m2 fIdx (mVar 0) (mC (.int 1))) (m2 fIdx (mVar 0) (mC (.int 0)))) (mAsg false 2 .n (m2 fAdd (m2 fIdx (mVar 0) (mC (.int 0))) (m2 fIdx (mVar 1) (mC (.int 1))))) mNext)
    (mSeq (mAsg true 3 .z (m2 fIdx (mVar 1) (mC (.int 2))))
    (mSeq (mIf (m2 fEq (m2 fIdx (mVar 1) (mC (.int 2))) (m2 fIdx (mVar 1) (mC (.int 0)))) (mAsg false 3 .n (m2 fAdd (m2 fIdx (mVar 1) (mC (.int 0))) (m2 fIdx (mVar 0) (mC (.int 2))))) mNext)
    (mRet (mN (mTup (mCons (m2 fAdd (m2 fIdx (mVar 0) (mC (.int 0))) (m2 fIdx (mVar 1) (mC (.int 0)))) (mCons (mVar 2) (mCons (mVar 3) (mCons (mCall fMax3 (mCons (m2 fIdx (mVar 0) (mC (.int 3))) (mCons (m2 fIdx (mVar 1) (mC (.int 3))) (mCons (m2 fAdd (m2 fIdx (mVar 0) (mC (.int 2))) (m2 fIdx (mVar 1) (mC (.int 1)))) mNil)))) mNil)))))))))))
def m_joined : List D → OE := runF Fr.n 2 4 b_joined
def l1_all_joined : MS :=
    (mAsg false 1 .n (mCall m_joined (mCons (mVar 1) (mCons (mVar 2) mNil))))
def b_all_joined : MS :=
    (mSeq (mAsg false 1 (.t [.n, .n, .n, .n]) (mTup (mCons (mC (.int 0)) (mCons (mC (.int 0)) (mCons (mC (.int 0)) (mCons (mC (.int 0)) mNil))))))
    (mSeq (mFor true (mIt1 fItL (mVar 0)) (.nm 2) l1_all_joined)
    (mRet (mN (mVar 1)))))
def m_all_joined : List D → OE := runF Fr.n 1 3 b_all_joined
def l1_blocks : MS :=
    (mLookApp 2 3 (mSnoc mNil (m1 fNeg (mC (.int 1)))) mNil (.l .n) (mLc (mIter fRng3 (mCons (mC (.int 0)) (mCons (mCall fLen (mCons (mVar 3) mNil)) (mCons (mVar 1) mNil)))) (.nm 5) (mC (.bl true)) (mCall m_all_joined (mCons (mSl fSl (mVar 3) (mInt (mVar 5)) (mInt (m2 fAdd (mVar 5) (mVar 1)))) mNil)) [5])
    mNext)
def b_blocks : MS :=
    (mSeq (mIf (m2 fEq (mVar 0) (mLst mNil)) (mRet (mLst mNil)) mNext)
    (mSeq (mAsg false 2 (.l (.l .n)) (mLst (mCons (mLc (mIt1 fItL (mVar 0)) (.nm 4) (mC (.bl true)) (mCall m_page_block (mCons (mVar 4) mNil)) [4]) mNil)))
    (mSeq (mWhile (m2 fGt (mCall fLen (mCons (m2 fIdx (mVar 2) (m1 fNeg (mC (.int 1)))) mNil)) (mC (.int 1))) l1_blocks 1000)
    (mRetV 2 (.l (.l .n))))))
def m_blocks : List D → OE := runF (Fr.l (.l .n)) 2 6 b_blocks
def b__law_whole : MS :=
    (mRet (mN (mAnd (m1 (fIsi .int) (mVar 0)) (m1 fNot (m1 (fIsi .bool) (mVar 0))))))
def m__law_whole : List D → OE := runF Fr.n 1 1 b__law_whole
def b__law_is_block : MS :=
    (mSeq (mIf (mOr (m1 fNot (m1 (fIsi .tuple) (mVar 0))) (mOr (m2 fNe (mCall fLen (mCons (mVar 0) mNil)) (mC (.int 4))) (m2 fNe (mVar 0) (mVar 1)))) (mRet (mC (.bl false))) mNext)
    (mRet (mCall fall (mCons (mLc (mIt1 fItT (mVar 0)) (.nm 2) (mC (.bl true)) (mCall m__law_whole (mCons (mVar 2) mNil)) [2]) mNil))))
def m__law_is_block : List D → OE := runF Fr.n 2 3 b__law_is_block
def l1__law_right : MS :=
    (mIf (m1 fNot (mCall m__law_is_block (mCons (mVar 4) (mCons (mVar 5) mNil)))) (mRet (mC (.bl false))) mNext)
def l2__law_right : MS :=
    (mSeq (mIf (mOr (m1 fNot (m1 (fIsi .list) (mVar 2))) (m2 fNe (mCall fLen (mCons (mVar 2) mNil)) (mCall fLen (mCons (mVar 3) mNil)))) (mRet (mC (.bl false))) mNext)
    (mFor true (mIter fZip (mCons (mVar 2) (mCons (mVar 3) mNil))) (.tp [4, 5]) l1__law_right))
def b__law_right : MS :=
    (mSeq (mIf (mOr (m1 fNot (m1 (fIsi .list) (mVar 0))) (m2 fNe (mCall fLen (mCons (mVar 0) mNil)) (mCall fLen (mCons (mVar 1) mNil)))) (mRet (mC (.bl false))) mNext)
    (mSeq (mFor true (mIter fZip (mCons (mVar 0) (mCons (mVar 1) mNil))) (.tp [2, 3]) l2__law_right)
    (mRet (mC (.bl true)))))
def m__law_right : List D → OE := runF Fr.n 2 6 b__law_right
def l1_law : MS :=
    (mMut false 6 mNil .n (mC .non) fClr)
def l2_law : MS :=
    (mSeq (mAsg false 4 (.l (.l .n)) (mCall m__law_due (mCons (mVar 1) (mCons (mVar 3) mNil))))
    (mSeq (mAsg false 5 (.l (.l .n)) (mCall m_blocks (mCons (mVar 2) (mCons (mVar 3) mNil))))
    (mSeq (mIf (m1 fNot (mCall m__law_right (mCons (mVar 5) (mCons (mVar 4) mNil)))) (mRet (mC (.bl false))) mNext)
    (mSeq (mForB 5 6 l1_law)
    (mIf (m1 fNot (mCall m__law_right (mCons (mCall m_blocks (mCons (mVar 2) (mCons (mVar 3) mNil))) (mCons (mVar 4) mNil)))) (mRet (mC (.bl false))) mNext)))))
def b_law : MS :=
    (mSeq (mAsg false 1 (.l .n) (mCall m__law_empties (mCons (mVar 0) (mCons (mC (.int 0)) (mCons (mC (.int 200)) mNil)))))
    (mSeq (mAsg false 2 (.l .n) (mLN (mCall fList (mCons (mVar 1) mNil))))
    (mSeq (mFor false (mIt1 fItL (mLst (mCons (mCall m__law_fan (mCons (mVar 0) (mCons (mC (.int 1)) mNil))) (mCons (mCall m__law_fan (mCons (mVar 0) (mCons (mC (.int 2)) mNil))) (mCons (mCall m__law_fan (mCons (mVar 0) (mCons (mC (.int 1)) mNil))) mNil))))) (.nm 3) l2_law)
    (mSeq (mIf (m2 fNe (mVar 2) (mLst mNil)) (mSeq (mAsg false 7 .n (m2 fMod (m2 fIdx (mCall m__law_row (mCons (mVar 0) (mCons (mC (.int 3)) (mCons (mLst (mCons (mC (.int 200)) mNil)) mNil)))) (mC (.int 0))) (mCall fLen (mCons (mVar 2) mNil))))
    (mSeq (mPut false 2 mNil .n (mVar 7) (m1 fNot (m2 fIdx (mVar 2) (mVar 7))))
    (mSeq (mPut false 1 mNil .n (mVar 7) (mN (m2 fIdx (mVar 2) (mVar 7))))
    (mSeq (mAsg false 3 .n (mCall m__law_fan (mCons (mVar 0) (mCons (mC (.int 1)) mNil))))
    (mIf (m1 fNot (mCall m__law_right (mCons (mCall m_blocks (mCons (mVar 2) (mCons (mVar 3) mNil))) (mCons (mCall m__law_due (mCons (mVar 1) (mCons (mVar 3) mNil))) mNil)))) (mRet (mC (.bl false))) mNext))))) mNext)
    (mRet (mN (mAnd (m2 fEq (mVar 2) (mVar 1)) (mAnd (m2 fEq (mCall m_blocks (mCons (mLst mNil) (mCons (mC (.int 2)) mNil))) (mLst mNil)) (m2 fEq (mCall m_blocks (mCons (mLst (mCons (mC (.bl true)) mNil)) (mCons (mC (.int 8)) mNil))) (mLst (mCons (mLst (mCons (mN (mTup (mCons (mC (.int 1)) (mCons (mC (.int 1)) (mCons (mC (.int 1)) (mCons (mC (.int 1)) mNil)))))) mNil)) mNil)))))))))))
def m_law : List D → OE := runF Fr.n 1 8 b_law
structure Tx (K : Frag) (mg : Str → Option Value) : Prop where
  b_all : mg "all" = none
  b_bool : mg "bool" = none
  b_int : mg "int" = none
  b_isinstance : mg "isinstance" = none
  b_len : mg "len" = none
  b_list : mg "list" = none
  b_max : mg "max" = none
  b_min : mg "min" = none
  b_range : mg "range" = none
  b_tuple : mg "tuple" = none
  b_zip : mg "zip" = none
  g__law_cell : mg "_law_cell" = some (.ref (He.ga K "_law_cell"))
  g__law_mix : mg "_law_mix" = some (.ref (He.ga K "_law_mix"))
  g__law_row : mg "_law_row" = some (.ref (He.ga K "_law_row"))
  g__law_empties : mg "_law_empties" = some (.ref (He.ga K "_law_empties"))
  g__law_fan : mg "_law_fan" = some (.ref (He.ga K "_law_fan"))
  g__law_counts : mg "_law_counts" = some (.ref (He.ga K "_law_counts"))
  g__law_reach : mg "_law_reach" = some (.ref (He.ga K "_law_reach"))
  g__law_block : mg "_law_block" = some (.ref (He.ga K "_law_block"))
  g__law_due : mg "_law_due" = some (.ref (He.ga K "_law_due"))
  g_page_block : mg "page_block" = some (.ref (He.ga K "page_block"))
  g_joined : mg "joined" = some (.ref (He.ga K "joined"))
  g_all_joined : mg "all_joined" = some (.ref (He.ga K "all_joined"))
  g_blocks : mg "blocks" = some (.ref (He.ga K "blocks"))
  g__law_whole : mg "_law_whole" = some (.ref (He.ga K "_law_whole"))
  g__law_is_block : mg "_law_is_block" = some (.ref (He.ga K "_law_is_block"))
  g__law_right : mg "_law_right" = some (.ref (He.ga K "_law_right"))
  g_law : mg "law" = some (.ref (He.ga K "law"))
structure Fx (K : Frag) : Prop where
  d__law_cell : ∃ fd, Fun K "_law_cell" "_law_cell" s__law_cell (He.ga K "_law_cell") fd
  d__law_mix : ∃ fd, Fun K "_law_mix" "_law_mix" s__law_mix (He.ga K "_law_mix") fd
  d__law_row : ∃ fd, Fun K "_law_row" "_law_row" s__law_row (He.ga K "_law_row") fd
  d__law_empties : ∃ fd, Fun K "_law_empties" "_law_empties" s__law_empties (He.ga K "_law_empties") fd
  d__law_fan : ∃ fd, Fun K "_law_fan" "_law_fan" s__law_fan (He.ga K "_law_fan") fd
  d__law_counts : ∃ fd, Fun K "_law_counts" "_law_counts" s__law_counts (He.ga K "_law_counts") fd
  d__law_reach : ∃ fd, Fun K "_law_reach" "_law_reach" s__law_reach (He.ga K "_law_reach") fd
  d__law_block : ∃ fd, Fun K "_law_block" "_law_block" s__law_block (He.ga K "_law_block") fd
  d__law_due : ∃ fd, Fun K "_law_due" "_law_due" s__law_due (He.ga K "_law_due") fd
  d_page_block : ∃ fd, Fun K "page_block" "page_block" s_page_block (He.ga K "page_block") fd
  d_joined : ∃ fd, Fun K "joined" "joined" s_joined (He.ga K "joined") fd
  d_all_joined : ∃ fd, Fun K "all_joined" "all_joined" s_all_joined (He.ga K "all_joined") fd
  d_blocks : ∃ fd, Fun K "blocks" "blocks" s_blocks (He.ga K "blocks") fd
  d__law_whole : ∃ fd, Fun K "_law_whole" "_law_whole" s__law_whole (He.ga K "_law_whole") fd
  d__law_is_block : ∃ fd, Fun K "_law_is_block" "_law_is_block" s__law_is_block (He.ga K "_law_is_block") fd
  d__law_right : ∃ fd, Fun K "_law_right" "_law_right" s__law_right (He.ga K "_law_right") fd
  d_law : ∃ fd, Fun K "law" "law" s_law (He.ga K "law") fd
section
variable {P : Program} {w : World} {K : Frag} {mg : Str → Option Value} {base : Heap}
theorem w__law_cell_fd (A : Tx K mg) (F : Fx K) {fd : FuncData} (F0 : Fun K "_law_cell" "_law_cell" s__law_cell (He.ga K "_law_cell") fd) : FnOk P w K mg base (L2.CX P w) 1 (He.ga K "_law_cell") fd P__law_cell (spD K mg Fr.n m__law_cell) := by
  refine fn_ok F0 sc__law_cell fun cdv A' outer s H E hr => ?_
  have tk := takes_of (X := (cxOf (L2.CX P w) P w K mg base N__law_cell "_law_cell" (defScope s__law_cell) (He.ga K "_law_cell") cdv A' outer s H E)) (E := E) rfl rfl rfl rfl
  have po : PassesOwn (model P w) (cxOf (L2.CX P w) P w K mg base N__law_cell "_law_cell" (defScope s__law_cell) (He.ga K "_law_cell") cdv A' outer s H E).A (cxOf (L2.CX P w) P w K mg base N__law_cell "_law_cell" (defScope s__law_cell) (He.ga K "_law_cell") cdv A' outer s H E).env (cxOf (L2.CX P w) P w K mg base N__law_cell "_law_cell" (defScope s__law_cell) (He.ga K "_law_cell") cdv A' outer s H E).xe := passes_of rfl
  exact (s_cons (s_if (st_lt (e_var 1) (e_len (by rfl) A.b_len (a_cons (e_var 0) a_nil))) (s_one (s_ret (SE.toN (e_idx (e_var 0) (e_var 1))))) s_nil)
      (s_cons (s_asg false (i := 2) (by exact nd__law_cell) rfl (.inl rfl) e_int)
      (s_cons (s_for true po rfl (si_list (e_slL (e_var 0) so_none (so_some e_int))) (gt_nm 3 (by exact nd__law_cell) rfl (.inl rfl)) (s_one (s_asg false (i := 2) (by exact nd__law_cell) rfl (.inl rfl) (e_mod (e_add (e_add (e_mul (e_var 2) e_int) (e_mod (e_var 3) e_int)) e_int) e_int))))
      (s_one (s_ret (e_mod (e_add (e_var 2) (e_mul e_int (e_var 1))) e_int))))))
theorem w__law_mix_fd (A : Tx K mg) (F : Fx K) {fd : FuncData} (F0 : Fun K "_law_mix" "_law_mix" s__law_mix (He.ga K "_law_mix") fd) : FnOk P w K mg base (L2.CX P w) 1 (He.ga K "_law_mix") fd P__law_mix (spD K mg Fr.n m__law_mix) := by
  refine fn_ok F0 sc__law_mix fun cdv A' outer s H E hr => ?_
  have tk := takes_of (X := (cxOf (L2.CX P w) P w K mg base N__law_mix "_law_mix" (defScope s__law_mix) (He.ga K "_law_mix") cdv A' outer s H E)) (E := E) rfl rfl rfl rfl
  have po : PassesOwn (model P w) (cxOf (L2.CX P w) P w K mg base N__law_mix "_law_mix" (defScope s__law_mix) (He.ga K "_law_mix") cdv A' outer s H E).A (cxOf (L2.CX P w) P w K mg base N__law_mix "_law_mix" (defScope s__law_mix) (He.ga K "_law_mix") cdv A' outer s H E).env (cxOf (L2.CX P w) P w K mg base N__law_mix "_law_mix" (defScope s__law_mix) (He.ga K "_law_mix") cdv A' outer s H E).xe := passes_of rfl
  exact (s_cons (s_asg false (i := 2) (by exact nd__law_mix) rfl (.inl rfl) (e_mod (e_pow (e_add (e_add (e_mod (e_var 0) e_int) (e_mul e_int (e_var 1))) e_int) e_int) e_int))
      (s_cons (s_asg false (i := 3) (by exact nd__law_mix) rfl (.inl rfl) (e_mod (e_add (e_add (e_mul (e_var 2) e_int) (e_mul (e_mul e_int (e_var 1)) (e_var 1))) e_int) e_int))
      (s_one (s_ret (e_div (e_var 3) e_int)))))
theorem w__law_row_fd (A : Tx K mg) (F : Fx K) {fd : FuncData} (F0 : Fun K "_law_row" "_law_row" s__law_row (He.ga K "_law_row") fd) : FnOk P w K mg base (L2.CX P w) 2 (He.ga K "_law_row") fd P__law_row (spD K mg (Fr.l .n) m__law_row) := by
  obtain ⟨fd__law_cell, A_d__law_cell⟩ := F.d__law_cell
  have b__law_cell : Binds K fd__law_cell P__law_cell [] := A_d__law_cell.binds (ps := P__law_cell) (fun _ _ _ _ _ _ us hl => match us, hl with | [_, _], _ => rfl)
  have G__law_cell := w__law_cell_fd (P := P) (w := w) (base := base) A F A_d__law_cell
  obtain ⟨fd__law_mix, A_d__law_mix⟩ := F.d__law_mix
  have b__law_mix : Binds K fd__law_mix P__law_mix [] := A_d__law_mix.binds (ps := P__law_mix) (fun _ _ _ _ _ _ us hl => match us, hl with | [_, _], _ => rfl)
  have G__law_mix := w__law_mix_fd (P := P) (w := w) (base := base) A F A_d__law_mix
  refine fn_ok F0 sc__law_row fun cdv A' outer s H E hr => ?_
  have tk := takes_of (X := (cxOf (L2.CX P w) P w K mg base N__law_row "_law_row" (defScope s__law_row) (He.ga K "_law_row") cdv A' outer s H E)) (E := E) rfl rfl rfl rfl
  have po : PassesOwn (model P w) (cxOf (L2.CX P w) P w K mg base N__law_row "_law_row" (defScope s__law_row) (He.ga K "_law_row") cdv A' outer s H E).A (cxOf (L2.CX P w) P w K mg base N__law_row "_law_row" (defScope s__law_row) (He.ga K "_law_row") cdv A' outer s H E).env (cxOf (L2.CX P w) P w K mg base N__law_row "_law_row" (defScope s__law_row) (He.ga K "_law_row") cdv A' outer s H E).xe := passes_of rfl
  exact (s_cons (s_asg false (i := 3) (by exact nd__law_row) rfl (.inl rfl) (e_call (R := .n) G__law_cell (hr.mono (by decide)) (by rfl) A.g__law_cell A_d__law_cell.kp b__law_cell tk (a_cons (e_var 0) (a_cons (e_var 1) a_nil))))
      (s_cons (s_asg true (i := 4) (by exact nd__law_row) rfl (.inl rfl) (e_var 3))
      (s_cons (s_asg false (i := 5) (by exact nd__law_row) rfl (.inl rfl) (e_lst (n := 0) (r := .n) a_nil))
      (s_cons (s_for false po rfl (si_range1 (by rfl) A.b_range (a_cons (e_len (by rfl) A.b_len (a_cons (e_var 2) a_nil)) a_nil)) (gt_nm 6 (by exact nd__law_row) rfl (.inl rfl)) (s_one (s_if (st_lt (e_var 3) (e_pow e_int e_int)) (s_one (s_app false 5 (p_nm 5) (e_mod (e_call (R := .n) G__law_mix (hr.mono (by decide)) (by rfl) A.g__law_mix A_d__law_mix.kp b__law_mix tk (a_cons (e_var 3) (a_cons (e_var 6) a_nil))) (e_idx (e_var 2) (e_var 6))))) (s_one (s_if (st_gt (e_var 4) e_int) (s_cons (s_app false 5 (p_nm 5) (e_mod (e_var 4) (e_idx (e_var 2) (e_var 6))))
      (s_one (s_asg false (i := 4) (by exact nd__law_row) rfl (.inl rfl) (e_div (e_var 4) (e_idx (e_var 2) (e_var 6)))))) (s_cons (s_asg false (i := 7) (by exact nd__law_row) rfl (.inl rfl) (e_call (R := .n) G__law_cell (hr.mono (by decide)) (by rfl) A.g__law_cell A_d__law_cell.kp b__law_cell tk (a_cons (e_var 0) (a_cons (e_mod (e_add (e_add (e_var 1) e_int) (e_var 6)) e_int) a_nil))))
      (s_one (s_app false 5 (p_nm 5) (e_mod (e_call (R := .n) G__law_mix (hr.mono (by decide)) (by rfl) A.g__law_mix A_d__law_mix.kp b__law_mix tk (a_cons (e_var 7) (a_cons (e_var 6) a_nil))) (e_idx (e_var 2) (e_var 6)))))))))))
      (s_one (s_retV 5))))))
theorem w__law_empties_fd (A : Tx K mg) (F : Fx K) {fd : FuncData} (F0 : Fun K "_law_empties" "_law_empties" s__law_empties (He.ga K "_law_empties") fd) : FnOk P w K mg base (L2.CX P w) 3 (He.ga K "_law_empties") fd P__law_empties (spD K mg (Fr.l .n) m__law_empties) := by
  obtain ⟨fd__law_row, A_d__law_row⟩ := F.d__law_row
  have b__law_row : Binds K fd__law_row P__law_row [] := A_d__law_row.binds (ps := P__law_row) (fun _ _ _ _ _ _ us hl => match us, hl with | [_, _, _], _ => rfl)
  have G__law_row := w__law_row_fd (P := P) (w := w) (base := base) A F A_d__law_row
  refine fn_ok F0 sc__law_empties fun cdv A' outer s H E hr => ?_
  have tk := takes_of (X := (cxOf (L2.CX P w) P w K mg base N__law_empties "_law_empties" (defScope s__law_empties) (He.ga K "_law_empties") cdv A' outer s H E)) (E := E) rfl rfl rfl rfl
  have po : PassesOwn (model P w) (cxOf (L2.CX P w) P w K mg base N__law_empties "_law_empties" (defScope s__law_empties) (He.ga K "_law_empties") cdv A' outer s H E).A (cxOf (L2.CX P w) P w K mg base N__law_empties "_law_empties" (defScope s__law_empties) (He.ga K "_law_empties") cdv A' outer s H E).env (cxOf (L2.CX P w) P w K mg base N__law_empties "_law_empties" (defScope s__law_empties) (He.ga K "_law_empties") cdv A' outer s H E).xe := passes_of rfl
  exact (s_cons (s_asg false (i := 3) (by exact nd__law_empties) rfl (.inl rfl) (e_call (R := (.l .n)) G__law_row (hr.mono (by decide)) (by rfl) A.g__law_row A_d__law_row.kp b__law_row tk (a_cons (e_var 0) (a_cons (e_var 1) (a_cons (e_catL (e_lst (n := 3) (r := .n) (a_cons (e_add (e_var 2) e_int) (a_cons e_int (a_cons e_int a_nil)))) (e_rep (e_lst (n := 1) (r := .n) (a_cons e_int a_nil)) (e_var 2))) a_nil)))))
      (s_cons (s_asg false (i := 4) (by exact nd__law_empties) rfl (.inl rfl) (e_lst (n := 0) (r := .n) a_nil))
      (s_cons (s_for false po rfl (si_range1 (by rfl) A.b_range (a_cons (e_idx (e_var 3) e_int) a_nil)) (gt_nm 5 (by exact nd__law_empties) rfl (.inl rfl)) (s_cons (s_asg false (i := 6) (by exact nd__law_empties) rfl (.inl rfl) (SE.toN (e_idx (e_var 3) (e_add e_int (e_var 5)))))
      (s_one (s_if (st_eq hr (e_idx (e_var 3) e_int) e_int) (s_one (s_app false 4 (p_nm 4) (e_eq hr (e_idx (e_var 3) e_int) e_int))) (s_one (s_if (st_gt (e_idx (e_var 3) e_int) e_int) (s_one (s_while 1000 po (st_w (sw_and (st_lt (e_len (by rfl) A.b_len (a_cons (e_var 4) a_nil)) (e_idx (e_var 3) e_int)) (sw_and1 (st_ge (e_var 6) e_int)))) (s_cons (s_app false 4 (p_nm 4) (e_eq hr (e_mod (e_add (e_var 5) (e_idx (e_var 3) e_int)) e_int) e_int))
      (s_one (s_asg false (i := 6) (by exact nd__law_empties) rfl (.inl rfl) (e_sub (e_var 6) e_int)))))) (s_one (s_app false 4 (p_nm 4) (e_ge (e_var 6) (e_idx (e_lst (n := 3) (r := .n) (a_cons e_int (a_cons e_int (a_cons e_int a_nil)))) (e_idx (e_var 3) e_int)))))))))))
      (s_one (s_retV 4)))))
theorem w__law_fan_fd (A : Tx K mg) (F : Fx K) {fd : FuncData} (F0 : Fun K "_law_fan" "_law_fan" s__law_fan (He.ga K "_law_fan") fd) : FnOk P w K mg base (L2.CX P w) 3 (He.ga K "_law_fan") fd P__law_fan (spD K mg Fr.n m__law_fan) := by
  obtain ⟨fd__law_row, A_d__law_row⟩ := F.d__law_row
  have b__law_row : Binds K fd__law_row P__law_row [] := A_d__law_row.binds (ps := P__law_row) (fun _ _ _ _ _ _ us hl => match us, hl with | [_, _, _], _ => rfl)
  have G__law_row := w__law_row_fd (P := P) (w := w) (base := base) A F A_d__law_row
  refine fn_ok F0 sc__law_fan fun cdv A' outer s H E hr => ?_
  have tk := takes_of (X := (cxOf (L2.CX P w) P w K mg base N__law_fan "_law_fan" (defScope s__law_fan) (He.ga K "_law_fan") cdv A' outer s H E)) (E := E) rfl rfl rfl rfl
  have po : PassesOwn (model P w) (cxOf (L2.CX P w) P w K mg base N__law_fan "_law_fan" (defScope s__law_fan) (He.ga K "_law_fan") cdv A' outer s H E).A (cxOf (L2.CX P w) P w K mg base N__law_fan "_law_fan" (defScope s__law_fan) (He.ga K "_law_fan") cdv A' outer s H E).env (cxOf (L2.CX P w) P w K mg base N__law_fan "_law_fan" (defScope s__law_fan) (He.ga K "_law_fan") cdv A' outer s H E).xe := passes_of rfl
  exact (s_one (s_ret (e_add e_int (e_idx (e_call (R := (.l .n)) G__law_row (hr.mono (by decide)) (by rfl) A.g__law_row A_d__law_row.kp b__law_row tk (a_cons (e_var 0) (a_cons (e_var 1) (a_cons (e_lst (n := 1) (r := .n) (a_cons e_int a_nil)) a_nil)))) e_int))))
theorem w__law_counts_fd (A : Tx K mg) (F : Fx K) {fd : FuncData} (F0 : Fun K "_law_counts" "_law_counts" s__law_counts (He.ga K "_law_counts") fd) : FnOk P w K mg base (L2.CX P w) 1 (He.ga K "_law_counts") fd P__law_counts (spD K mg (Fr.l .n) m__law_counts) := by
  refine fn_ok F0 sc__law_counts fun cdv A' outer s H E hr => ?_
  have tk := takes_of (X := (cxOf (L2.CX P w) P w K mg base N__law_counts "_law_counts" (defScope s__law_counts) (He.ga K "_law_counts") cdv A' outer s H E)) (E := E) rfl rfl rfl rfl
  have po : PassesOwn (model P w) (cxOf (L2.CX P w) P w K mg base N__law_counts "_law_counts" (defScope s__law_counts) (He.ga K "_law_counts") cdv A' outer s H E).A (cxOf (L2.CX P w) P w K mg base N__law_counts "_law_counts" (defScope s__law_counts) (He.ga K "_law_counts") cdv A' outer s H E).env (cxOf (L2.CX P w) P w K mg base N__law_counts "_law_counts" (defScope s__law_counts) (He.ga K "_law_counts") cdv A' outer s H E).xe := passes_of rfl
  exact (s_cons (s_if (st_eq hr (e_var 0) e_int) (s_one (s_ret (e_lst (n := 0) (r := .n) a_nil))) s_nil)
      (s_cons (s_asg false (i := 2) (by exact nd__law_counts) rfl (.inl rfl) (e_lst (n := 1) (r := .n) (a_cons (SE.toN (e_var 0)) a_nil)))
      (s_cons (s_while 1000 po (st_gt (e_idx (e_var 2) (e_neg e_int)) e_int) (s_one (s_app false 2 (p_nm 2) (e_div (e_sub (e_add (e_idx (e_var 2) (e_neg e_int)) (e_var 1)) e_int) (e_var 1)))))
      (s_one (s_retV 2)))))
theorem w__law_reach_fd (A : Tx K mg) (F : Fx K) {fd : FuncData} (F0 : Fun K "_law_reach" "_law_reach" s__law_reach (He.ga K "_law_reach") fd) : FnOk P w K mg base (L2.CX P w) 1 (He.ga K "_law_reach") fd P__law_reach (spD K mg Fr.n m__law_reach) := by
  refine fn_ok F0 sc__law_reach fun cdv A' outer s H E hr => ?_
  have tk := takes_of (X := (cxOf (L2.CX P w) P w K mg base N__law_reach "_law_reach" (defScope s__law_reach) (He.ga K "_law_reach") cdv A' outer s H E)) (E := E) rfl rfl rfl rfl
  have po : PassesOwn (model P w) (cxOf (L2.CX P w) P w K mg base N__law_reach "_law_reach" (defScope s__law_reach) (He.ga K "_law_reach") cdv A' outer s H E).A (cxOf (L2.CX P w) P w K mg base N__law_reach "_law_reach" (defScope s__law_reach) (He.ga K "_law_reach") cdv A' outer s H E).env (cxOf (L2.CX P w) P w K mg base N__law_reach "_law_reach" (defScope s__law_reach) (He.ga K "_law_reach") cdv A' outer s H E).xe := passes_of rfl
  exact (s_cons (s_asg false (i := 4) (by exact nd__law_reach) rfl (.inl rfl) e_int)
      (s_cons (s_for false po rfl (si_range1 (by rfl) A.b_range (a_cons (e_var 2) a_nil)) (gt_nm 5 (by exact nd__law_reach) rfl (.inl rfl)) (s_one (s_asg false (i := 4) (by exact nd__law_reach) rfl (.inl rfl) (e_mul (e_var 4) (e_var 1)))))
      (s_one (s_ret (SE.toN (e_tup (a_cons (e_mul (e_var 3) (e_var 4)) (a_cons (e_min2 rfl (by rfl) A.b_min (a_cons (e_var 0) (a_cons (e_add (e_mul (e_var 3) (e_var 4)) (e_var 4)) a_nil))) a_nil))))))))
theorem w__law_block_fd (A : Tx K mg) (F : Fx K) {fd : FuncData} (F0 : Fun K "_law_block" "_law_block" s__law_block (He.ga K "_law_block") fd) : FnOk P w K mg base (L2.CX P w) 1 (He.ga K "_law_block") fd P__law_block (spD K mg Fr.n m__law_block) := by
  refine fn_ok F0 sc__law_block fun cdv A' outer s H E hr => ?_
  have tk := takes_of (X := (cxOf (L2.CX P w) P w K mg base N__law_block "_law_block" (defScope s__law_block) (He.ga K "_law_block") cdv A' outer s H E)) (E := E) rfl rfl rfl rfl
  have po : PassesOwn (model P w) (cxOf (L2.CX P w) P w K mg base N__law_block "_law_block" (defScope s__law_block) (He.ga K "_law_block") cdv A' outer s H E).A (cxOf (L2.CX P w) P w K mg base N__law_block "_law_block" (defScope s__law_block) (He.ga K "_law_block") cdv A' outer s H E).env (cxOf (L2.CX P w) P w K mg base N__law_block "_law_block" (defScope s__law_block) (He.ga K "_law_block") cdv A' outer s H E).xe := passes_of rfl
  exact (s_cons (s_asg false (i := 1) (by exact nd__law_block) rfl (.inl rfl) e_int)
      (s_cons (s_while 1000 po (st_w (sw_and (st_lt (e_var 1) (e_len (by rfl) A.b_len (a_cons (e_var 0) a_nil))) (sw_and1 (st_val (e_idx (e_var 0) (e_var 1)))))) (s_one (s_asg false (i := 1) (by exact nd__law_block) rfl (.inl rfl) (e_add (e_var 1) e_int))))
      (s_cons (s_asg false (i := 2) (by exact nd__law_block) rfl (.inl rfl) e_int)
      (s_cons (s_while 1000 po (st_w (sw_and (st_lt (e_var 2) (e_len (by rfl) A.b_len (a_cons (e_var 0) a_nil))) (sw_and1 (st_val (e_idx (e_var 0) (e_sub (e_sub (e_len (by rfl) A.b_len (a_cons (e_var 0) a_nil)) e_int) (e_var 2))))))) (s_one (s_asg false (i := 2) (by exact nd__law_block) rfl (.inl rfl) (e_add (e_var 2) e_int))))
      (s_cons (s_asg false (i := 3) (by exact nd__law_block) rfl (.inl rfl) e_int)
      (s_cons (s_asg false (i := 4) (by exact nd__law_block) rfl (.inl rfl) e_int)
      (s_cons (s_for true po rfl (si_list (e_var 0)) (gt_nm 5 (by exact nd__law_block) rfl (.inl rfl)) (s_cons (s_asg true (i := 4) (by exact nd__law_block) rfl (.inl rfl) (e_idx (e_lst (n := 2) (r := .n) (a_cons e_int (a_cons (e_add (e_var 4) e_int) a_nil))) (e_intc (by rfl) A.b_int (a_cons (e_var 5) a_nil))))
      (s_one (s_asg false (i := 3) (by exact nd__law_block) rfl (.inl rfl) (e_max2 rfl (by rfl) A.b_max (a_cons (e_var 3) (a_cons (e_var 4) a_nil)))))))
      (s_one (s_ret (SE.toN (e_tup (a_cons (e_len (by rfl) A.b_len (a_cons (e_var 0) a_nil)) (a_cons (e_var 1) (a_cons (e_var 2) (a_cons (e_var 3) a_nil)))))))))))))))
theorem w__law_due_fd (A : Tx K mg) (F : Fx K) {fd : FuncData} (F0 : Fun K "_law_due" "_law_due" s__law_due (He.ga K "_law_due") fd) : FnOk P w K mg base (L2.CX P w) 2 (He.ga K "_law_due") fd P__law_due (spD K mg (Fr.l (.l .n)) m__law_due) := by
  obtain ⟨fd__law_block, A_d__law_block⟩ := F.d__law_block
  have b__law_block : Binds K fd__law_block P__law_block [] := A_d__law_block.binds (ps := P__law_block) (fun _ _ _ _ _ _ us hl => match us, hl with | [_], _ => rfl)
  have G__law_block := w__law_block_fd (P := P) (w := w) (base := base) A F A_d__law_block
  obtain ⟨fd__law_counts, A_d__law_counts⟩ := F.d__law_counts
  have b__law_counts : Binds K fd__law_counts P__law_counts [] := A_d__law_counts.binds (ps := P__law_counts) (fun _ _ _ _ _ _ us hl => match us, hl with | [_, _], _ => rfl)
  have G__law_counts := w__law_counts_fd (P := P) (w := w) (base := base) A F A_d__law_counts
  obtain ⟨fd__law_reach, A_d__law_reach⟩ := F.d__law_reach
  have b__law_reach : Binds K fd__law_reach P__law_reach [] := A_d__law_reach.binds (ps := P__law_reach) (fun _ _ _ _ _ _ us hl => match us, hl with | [_, _, _, _], _ => rfl)
  have G__law_reach := w__law_reach_fd (P := P) (w := w) (base := base) A F A_d__law_reach
  refine fn_ok F0 sc__law_due fun cdv A' outer s H E hr => ?_
  have tk := takes_of (X := (cxOf (L2.CX P w) P w K mg base N__law_due "_law_due" (defScope s__law_due) (He.ga K "_law_due") cdv A' outer s H E)) (E := E) rfl rfl rfl rfl
  have po : PassesOwn (model P w) (cxOf (L2.CX P w) P w K mg base N__law_due "_law_due" (defScope s__law_due) (He.ga K "_law_due") cdv A' outer s H E).A (cxOf (L2.CX P w) P w K mg base N__law_due "_law_due" (defScope s__law_due) (He.ga K "_law_due") cdv A' outer s H E).env (cxOf (L2.CX P w) P w K mg base N__law_due "_law_due" (defScope s__law_due) (He.ga K "_law_due") cdv A' outer s H E).xe := passes_of rfl
  exact (s_cons (s_asg false (i := 2) (by exact nd__law_due) rfl (.inl rfl) (e_call (R := (.l .n)) G__law_counts (hr.mono (by decide)) (by rfl) A.g__law_counts A_d__law_counts.kp b__law_counts tk (a_cons (e_len (by rfl) A.b_len (a_cons (e_var 0) a_nil)) (a_cons (e_var 1) a_nil))))
      (s_cons (s_asg false (i := 3) (by exact nd__law_due) rfl (.inl rfl) (e_lst (n := 0) (r := (.l .n)) a_nil))
      (s_cons (s_for false po rfl (si_range1 (by rfl) A.b_range (a_cons (e_len (by rfl) A.b_len (a_cons (e_var 2) a_nil)) a_nil)) (gt_nm 4 (by exact nd__law_due) rfl (.inl rfl)) (s_cons (s_asg false (i := 5) (by exact nd__law_due) rfl (.inl rfl) (e_lst (n := 0) (r := .n) a_nil))
      (s_cons (s_for false po rfl (si_range1 (by rfl) A.b_range (a_cons (e_idx (e_var 2) (e_var 4)) a_nil)) (gt_nm 6 (by exact nd__law_due) rfl (.inl rfl)) (s_cons (s_asgTz false (gt_tp rfl (gts_cons (gt_nm 7 (by exact nd__law_due) rfl (.inl rfl)) (gts_cons (gt_nm 8 (by exact nd__law_due) rfl (.inl rfl)) gts_nil))) (e_call (R := .n) G__law_reach (hr.mono (by decide)) (by rfl) A.g__law_reach A_d__law_reach.kp b__law_reach tk (a_cons (e_len (by rfl) A.b_len (a_cons (e_var 0) a_nil)) (a_cons (e_var 1) (a_cons (e_var 4) (a_cons (e_var 6) a_nil))))))
      (s_one (s_app false 5 (p_nm 5) (e_call (R := .n) G__law_block (hr.mono (by decide)) (by rfl) A.g__law_block A_d__law_block.kp b__law_block tk (a_cons (e_slL (e_var 0) (so_some (e_var 7)) (so_some (e_var 8))) a_nil))))))
      (s_one (s_appMv 3 5 (r := (.l .n)) (p_nm 3) rfl (by first | exact Or.inl rfl | exact Or.inr (Or.inl rfl) | exact Or.inr (Or.inr rfl)))))))
      (s_one (s_retV 3)))))
theorem w_page_block_fd (A : Tx K mg) (F : Fx K) {fd : FuncData} (F0 : Fun K "page_block" "page_block" s_page_block (He.ga K "page_block") fd) : FnOk P w K mg base (L2.CX P w) 1 (He.ga K "page_block") fd P_page_block (spD K mg Fr.n m_page_block) := by
  refine fn_ok F0 sc_page_block fun cdv A' outer s H E hr => ?_
  have tk := takes_of (X := (cxOf (L2.CX P w) P w K mg base N_page_block "page_block" (defScope s_page_block) (He.ga K "page_block") cdv A' outer s H E)) (E := E) rfl rfl rfl rfl
  have po : PassesOwn (model P w) (cxOf (L2.CX P w) P w K mg base N_page_block "page_block" (defScope s_page_block) (He.ga K "page_block") cdv A' outer s H E).A (cxOf (L2.CX P w) P w K mg base N_page_block "page_block" (defScope s_page_block) (He.ga K "page_block") cdv A' outer s H E).env (cxOf (L2.CX P w) P w K mg base N_page_block "page_block" (defScope s_page_block) (He.ga K "page_block") cdv A' outer s H E).xe := passes_of rfl
  exact (s_cons (s_asg false (i := 1) (by exact nd_page_block) rfl (.inl rfl) (e_intc (by rfl) A.b_int (a_cons (e_var 0) a_nil)))
      (s_one (s_ret (SE.toN (e_tup (a_cons e_int (a_cons (e_var 1) (a_cons (e_var 1) (a_cons (e_var 1) a_nil)))))))))
theorem w_joined_fd (A : Tx K mg) (F : Fx K) {fd : FuncData} (F0 : Fun K "joined" "joined" s_joined (He.ga K "joined") fd) : FnOk P w K mg base (L2.CX P w) 1 (He.ga K "joined") fd P_joined (spD K mg Fr.n m_joined) := by
  refine fn_ok F0 sc_joined fun cdv A' outer s H E hr => ?_
  have tk := takes_of (X := (cxOf (L2.CX P w) P w K mg base N_joined "joined" (defScope s_joined) (He.ga K "joined") cdv A' outer s H E)) (E := E) rfl rfl rfl rfl
  have po : PassesOwn (model P w) (cxOf (L2.CX P w) P w K mg base N_joined "joined" (defScope s_joined) (He.ga K "joined") cdv A' outer s H E).A (cxOf (L2.CX P w) P w K mg base N_joined "joined" (defScope s_joined) (He.ga K "joined") cdv A' outer s H E).env (cxOf (L2.CX P w) P w K mg base N_joined "joined" (defScope s_joined) (He.ga K "joined") cdv A' outer s H E).xe := passes_of rfl
  exact (s_cons (s_asg true (i := 2) (by exact nd_joined) rfl (.inl rfl) (e_idx (e_var 0) e_int))
      (s_cons (s_if (st_eq hr (e_idx (e_var 0) e_int) (e_idx (e_var 0) e_int)) (s_one (s_asg false (i := 2) (by exact nd_joined) rfl (.inl rfl) (e_add (e_idx (e_var 0) e_int) (e_idx (e_var 1) e_int)))) s_nil)
      (s_cons (s_asg true (i := 3) (by exact nd_joined) rfl (.inl rfl) (e_idx (e_var 1) e_int))
      (s_cons (s_if (st_eq hr (e_idx (e_var 1) e_int) (e_idx (e_var 1) e_int)) (s_one (s_asg false (i := 3) (by exact nd_joined) rfl (.inl rfl) (e_add (e_idx (e_var 1) e_int) (e_idx (e_var 0) e_int)))) s_nil)
      (s_one (s_ret (SE.toN (e_tup (a_cons (e_add (e_idx (e_var 0) e_int) (e_idx (e_var 1) e_int)) (a_cons (e_var 2) (a_cons (e_var 3) (a_cons (e_max3 rfl (by rfl) A.b_max (a_cons (e_idx (e_var 0) e_int) (a_cons (e_idx (e_var 1) e_int) (a_cons (e_add (e_idx (e_var 0) e_int) (e_idx (e_var 1) e_int)) a_nil)))) a_nil))))))))))))
theorem w_all_joined_fd (A : Tx K mg) (F : Fx K) {fd : FuncData} (F0 : Fun K "all_joined" "all_joined" s_all_joined (He.ga K "all_joined") fd) : FnOk P w K mg base (L2.CX P w) 2 (He.ga K "all_joined") fd P_all_joined (spD K mg Fr.n m_all_joined) := by
  obtain ⟨fd_joined, A_d_joined⟩ := F.d_joined
  have b_joined : Binds K fd_joined P_joined [] := A_d_joined.binds (ps := P_joined) (fun _ _ _ _ _ _ us hl => match us, hl with | [_, _], _ => rfl)
  have G_joined := w_joined_fd (P := P) (w := w) (base := base) A F A_d_joined
  refine fn_ok F0 sc_all_joined fun cdv A' outer s H E hr => ?_
  have tk := takes_of (X := (cxOf (L2.CX P w) P w K mg base N_all_joined "all_joined" (defScope s_all_joined) (He.ga K "all_joined") cdv A' outer s H E)) (E := E) rfl rfl rfl rfl
  have po : PassesOwn (model P w) (cxOf (L2.CX P w) P w K mg base N_all_joined "all_joined" (defScope s_all_joined) (He.ga K "all_joined") cdv A' outer s H E).A (cxOf (L2.CX P w) P w K mg base N_all_joined "all_joined" (defScope s_all_joined) (He.ga K "all_joined") cdv A' outer s H E).env (cxOf (L2.CX P w) P w K mg base N_all_joined "all_joined" (defScope s_all_joined) (He.ga K "all_joined") cdv A' outer s H E).xe := passes_of rfl
  exact (s_cons (s_asg false (i := 1) (by exact nd_all_joined) rfl (.inl rfl) (e_tup (a_cons e_int (a_cons e_int (a_cons e_int (a_cons e_int a_nil))))))
      (s_cons (s_for true po rfl (si_list (e_var 0)) (gt_nm 2 (by exact nd_all_joined) rfl (.inl rfl)) (s_one (s_asg false (i := 1) (by exact nd_all_joined) rfl (.inl rfl) (e_call (R := .n) G_joined (hr.mono (by decide)) (by rfl) A.g_joined A_d_joined.kp b_joined tk (a_cons (e_var 1) (a_cons (e_var 2) a_nil))))))
      (s_one (s_ret (SE.toN (e_var 1))))))
theorem w_blocks_fd (A : Tx K mg) (F : Fx K) {fd : FuncData} (F0 : Fun K "blocks" "blocks" s_blocks (He.ga K "blocks") fd) : FnOk P w K mg base (L2.CX P w) 3 (He.ga K "blocks") fd P_blocks (spD K mg (Fr.l (.l .n)) m_blocks) := by
  obtain ⟨fd_page_block, A_d_page_block⟩ := F.d_page_block
  have b_page_block : Binds K fd_page_block P_page_block [] := A_d_page_block.binds (ps := P_page_block) (fun _ _ _ _ _ _ us hl => match us, hl with | [_], _ => rfl)
  have G_page_block := w_page_block_fd (P := P) (w := w) (base := base) A F A_d_page_block
  obtain ⟨fd_all_joined, A_d_all_joined⟩ := F.d_all_joined
  have b_all_joined : Binds K fd_all_joined P_all_joined [] := A_d_all_joined.binds (ps := P_all_joined) (fun _ _ _ _ _ _ us hl => match us, hl with | [_], _ => rfl)
  have G_all_joined := w_all_joined_fd (P := P) (w := w) (base := base) A F A_d_all_joined
  refine fn_ok F0 sc_blocks fun cdv A' outer s H E hr => ?_
  have tk := takes_of (X := (cxOf (L2.CX P w) P w K mg base N_blocks "blocks" (defScope s_blocks) (He.ga K "blocks") cdv A' outer s H E)) (E := E) rfl rfl rfl rfl
  have po : PassesOwn (model P w) (cxOf (L2.CX P w) P w K mg base N_blocks "blocks" (defScope s_blocks) (He.ga K "blocks") cdv A' outer s H E).A (cxOf (L2.CX P w) P w K mg base N_blocks "blocks" (defScope s_blocks) (He.ga K "blocks") cdv A' outer s H E).env (cxOf (L2.CX P w) P w K mg base N_blocks "blocks" (defScope s_blocks) (He.ga K "blocks") cdv A' outer s H E).xe := passes_of rfl
  exact (s_cons (s_if (st_eq hr (e_var 0) (e_lst (n := 0) (r := .n) a_nil)) (s_one (s_ret (e_lst (n := 0) (r := (.l .n)) a_nil))) s_nil)
      (s_cons (s_asg false (i := 2) (by exact nd_blocks) rfl (.inl rfl) (e_lst (n := 1) (r := (.l .n)) (a_cons (e_lc (own := [("empty", 4)]) (t := (.nm 4)) (r := .n) rfl (by exact nd_blocks) (si_list (e_var 0)) (blkOk_by (own := [("empty", 4)]) (N := N_blocks) (sc := defScope s_blocks) (by decide +kernel)) (fun _ _ _ _ _ => (gt_nm 4 (by exact nd_blocks) rfl (.inl rfl))) (fun _ _ _ _ _ => ts_nil) (fun _ _ _ _ _ => (e_call (R := .n) G_page_block (hr.mono (by decide)) (by rfl) A.g_page_block A_d_page_block.kp b_page_block takes0 (a_cons (e_var 4) a_nil))) (by decide)) a_nil)))
      (s_cons (s_while 1000 po (st_gt (e_len (by rfl) A.b_len (a_cons (e_idx (e_var 2) (e_neg e_int)) a_nil)) e_int) (s_lookApp 3 2 (by exact nd_blocks) rfl (.inr rfl) (p_ix (p_nm 2) (e_neg e_int)) (p_nm 2) (e_lc (own := [("at", 5)]) (t := (.nm 5)) (r := .n) rfl (by exact nd_blocks) (si_range3 (by rfl) A.b_range (a_cons e_int (a_cons (e_len (by rfl) A.b_len (a_cons (e_var 3) a_nil)) (a_cons (e_var 1) a_nil)))) (blkOk_by (own := [("at", 5)]) (N := N_blocks) (sc := defScope s_blocks) (by decide +kernel)) (fun _ _ _ _ _ => (gt_nm 5 (by exact nd_blocks) rfl (.inl rfl))) (fun _ _ _ _ _ => ts_nil) (fun _ _ _ _ _ => (e_call (R := .n) G_all_joined (hr.mono (by decide)) (by rfl) A.g_all_joined A_d_all_joined.kp b_all_joined takes0 (a_cons (e_slL (e_var 3) (so_some (e_var 5)) (so_some (e_add (e_var 5) (e_var 1)))) a_nil))) (by decide)) rfl s_nil))
      (s_one (s_retV 2)))))
theorem w__law_whole_fd (A : Tx K mg) (F : Fx K) {fd : FuncData} (F0 : Fun K "_law_whole" "_law_whole" s__law_whole (He.ga K "_law_whole") fd) : FnOk P w K mg base (L2.CX P w) 1 (He.ga K "_law_whole") fd P__law_whole (spD K mg Fr.n m__law_whole) := by
  refine fn_ok F0 sc__law_whole fun cdv A' outer s H E hr => ?_
  have tk := takes_of (X := (cxOf (L2.CX P w) P w K mg base N__law_whole "_law_whole" (defScope s__law_whole) (He.ga K "_law_whole") cdv A' outer s H E)) (E := E) rfl rfl rfl rfl
  have po : PassesOwn (model P w) (cxOf (L2.CX P w) P w K mg base N__law_whole "_law_whole" (defScope s__law_whole) (He.ga K "_law_whole") cdv A' outer s H E).A (cxOf (L2.CX P w) P w K mg base N__law_whole "_law_whole" (defScope s__law_whole) (He.ga K "_law_whole") cdv A' outer s H E).env (cxOf (L2.CX P w) P w K mg base N__law_whole "_law_whole" (defScope s__law_whole) (He.ga K "_law_whole") cdv A' outer s H E).xe := passes_of rfl
  exact (s_one (s_ret (SE.toN (e_and (e_isi (k := .int) rfl (by rfl) A.b_isinstance (by rfl) A.b_int (by decide +kernel) (e_var 0)) (e_one (e_not (e_isi (k := .bool) rfl (by rfl) A.b_isinstance (by rfl) A.b_bool (by decide +kernel) (e_var 0))))))))
theorem w__law_is_block_fd (A : Tx K mg) (F : Fx K) {fd : FuncData} (F0 : Fun K "_law_is_block" "_law_is_block" s__law_is_block (He.ga K "_law_is_block") fd) : FnOk P w K mg base (L2.CX P w) 2 (He.ga K "_law_is_block") fd P__law_is_block (spD K mg Fr.n m__law_is_block) := by
  obtain ⟨fd__law_whole, A_d__law_whole⟩ := F.d__law_whole
  have b__law_whole : Binds K fd__law_whole P__law_whole [] := A_d__law_whole.binds (ps := P__law_whole) (fun _ _ _ _ _ _ us hl => match us, hl with | [_], _ => rfl)
  have G__law_whole := w__law_whole_fd (P := P) (w := w) (base := base) A F A_d__law_whole
  refine fn_ok F0 sc__law_is_block fun cdv A' outer s H E hr => ?_
  have tk := takes_of (X := (cxOf (L2.CX P w) P w K mg base N__law_is_block "_law_is_block" (defScope s__law_is_block) (He.ga K "_law_is_block") cdv A' outer s H E)) (E := E) rfl rfl rfl rfl
  have po : PassesOwn (model P w) (cxOf (L2.CX P w) P w K mg base N__law_is_block "_law_is_block" (defScope s__law_is_block) (He.ga K "_law_is_block") cdv A' outer s H E).A (cxOf (L2.CX P w) P w K mg base N__law_is_block "_law_is_block" (defScope s__law_is_block) (He.ga K "_law_is_block") cdv A' outer s H E).env (cxOf (L2.CX P w) P w K mg base N__law_is_block "_law_is_block" (defScope s__law_is_block) (He.ga K "_law_is_block") cdv A' outer s H E).xe := passes_of rfl
  exact (s_cons (s_if (st_w (sw_or (st_not (st_val (e_isi (k := .tuple) rfl (by rfl) A.b_isinstance (by rfl) A.b_tuple (by decide +kernel) (e_var 0)))) (sw_or (st_ne hr (e_len (by rfl) A.b_len (a_cons (e_var 0) a_nil)) e_int) (sw_or1 (st_ne hr (e_var 0) (e_var 1)))))) (s_one (s_ret e_bl)) s_nil)
      (s_one (s_ret (e_all rfl (by rfl) A.b_all (a_cons (e_lc (own := [("_law_one", 2)]) (t := (.nm 2)) (r := .n) rfl (by exact nd__law_is_block) (si_tup (e_var 0)) (blkOk_by (own := [("_law_one", 2)]) (N := N__law_is_block) (sc := defScope s__law_is_block) (by decide +kernel)) (fun _ _ _ _ _ => (gt_nm 2 (by exact nd__law_is_block) rfl (.inl rfl))) (fun _ _ _ _ _ => ts_nil) (fun _ _ _ _ _ => (e_call (R := .n) G__law_whole (hr.mono (by decide)) (by rfl) A.g__law_whole A_d__law_whole.kp b__law_whole takes0 (a_cons (e_var 2) a_nil))) (by decide)) a_nil)))))
theorem w__law_right_fd (A : Tx K mg) (F : Fx K) {fd : FuncData} (F0 : Fun K "_law_right" "_law_right" s__law_right (He.ga K "_law_right") fd) : FnOk P w K mg base (L2.CX P w) 3 (He.ga K "_law_right") fd P__law_right (spD K mg Fr.n m__law_right) := by
  obtain ⟨fd__law_is_block, A_d__law_is_block⟩ := F.d__law_is_block
  have b__law_is_block : Binds K fd__law_is_block P__law_is_block [] := A_d__law_is_block.binds (ps := P__law_is_block) (fun _ _ _ _ _ _ us hl => match us, hl with | [_, _], _ => rfl)
  have G__law_is_block := w__law_is_block_fd (P := P) (w := w) (base := base) A F A_d__law_is_block
  refine fn_ok F0 sc__law_right fun cdv A' outer s H E hr => ?_
  have tk := takes_of (X := (cxOf (L2.CX P w) P w K mg base N__law_right "_law_right" (defScope s__law_right) (He.ga K "_law_right") cdv A' outer s H E)) (E := E) rfl rfl rfl rfl
  have po : PassesOwn (model P w) (cxOf (L2.CX P w) P w K mg base N__law_right "_law_right" (defScope s__law_right) (He.ga K "_law_right") cdv A' outer s H E).A (cxOf (L2.CX P w) P w K mg base N__law_right "_law_right" (defScope s__law_right) (He.ga K "_law_right") cdv A' outer s H E).env (cxOf (L2.CX P w) P w K mg base N__law_right "_law_right" (defScope s__law_right) (He.ga K "_law_right") cdv A' outer s H E).xe := passes_of rfl
  exact (s_cons (s_if (st_w (sw_or (st_not (st_val (e_isi (k := .list) rfl (by rfl) A.b_isinstance (by rfl) A.b_list (by decide +kernel) (e_var 0)))) (sw_or1 (st_ne hr (e_len (by rfl) A.b_len (a_cons (e_var 0) a_nil)) (e_len (by rfl) A.b_len (a_cons (e_var 1) a_nil)))))) (s_one (s_ret e_bl)) s_nil)
      (s_cons (s_for true po rfl (si_zip (by rfl) A.b_zip (a_cons (e_var 0) (a_cons (e_var 1) a_nil))) (gt_tp rfl (gts_cons (gt_nm 2 (by exact nd__law_right) rfl (.inl rfl)) (gts_cons (gt_nm 3 (by exact nd__law_right) rfl (.inl rfl)) gts_nil))) (s_cons (s_if (st_w (sw_or (st_not (st_val (e_isi (k := .list) rfl (by rfl) A.b_isinstance (by rfl) A.b_list (by decide +kernel) (e_var 2)))) (sw_or1 (st_ne hr (e_len (by rfl) A.b_len (a_cons (e_var 2) a_nil)) (e_len (by rfl) A.b_len (a_cons (e_var 3) a_nil)))))) (s_one (s_ret e_bl)) s_nil)
      (s_one (s_for true po rfl (si_zip (by rfl) A.b_zip (a_cons (e_var 2) (a_cons (e_var 3) a_nil))) (gt_tp rfl (gts_cons (gt_nm 4 (by exact nd__law_right) rfl (.inl rfl)) (gts_cons (gt_nm 5 (by exact nd__law_right) rfl (.inl rfl)) gts_nil))) (s_one (s_if (st_not (st_val (e_call (R := .n) G__law_is_block (hr.mono (by decide)) (by rfl) A.g__law_is_block A_d__law_is_block.kp b__law_is_block tk (a_cons (e_var 4) (a_cons (e_var 5) a_nil))))) (s_one (s_ret e_bl)) s_nil))))))
      (s_one (s_ret e_bl))))
theorem w_law_fd (A : Tx K mg) (F : Fx K) {fd : FuncData} (F0 : Fun K "law" "law" s_law (He.ga K "law") fd) : FnOk P w K mg base (L2.CX P w) 4 (He.ga K "law") fd P_law (spD K mg Fr.n m_law) := by
  obtain ⟨fd_blocks, A_d_blocks⟩ := F.d_blocks
  have b_blocks : Binds K fd_blocks P_blocks [] := A_d_blocks.binds (ps := P_blocks) (fun _ _ _ _ _ _ us hl => match us, hl with | [_, _], _ => rfl)
  have G_blocks := w_blocks_fd (P := P) (w := w) (base := base) A F A_d_blocks
  obtain ⟨fd__law_row, A_d__law_row⟩ := F.d__law_row
  have b__law_row : Binds K fd__law_row P__law_row [] := A_d__law_row.binds (ps := P__law_row) (fun _ _ _ _ _ _ us hl => match us, hl with | [_, _, _], _ => rfl)
  have G__law_row := w__law_row_fd (P := P) (w := w) (base := base) A F A_d__law_row
  obtain ⟨fd__law_empties, A_d__law_empties⟩ := F.d__law_empties
  have b__law_empties : Binds K fd__law_empties P__law_empties [] := A_d__law_empties.binds (ps := P__law_empties) (fun _ _ _ _ _ _ us hl => match us, hl with | [_, _, _], _ => rfl)
  have G__law_empties := w__law_empties_fd (P := P) (w := w) (base := base) A F A_d__law_empties
  obtain ⟨fd__law_fan, A_d__law_fan⟩ := F.d__law_fan
  have b__law_fan : Binds K fd__law_fan P__law_fan [] := A_d__law_fan.binds (ps := P__law_fan) (fun _ _ _ _ _ _ us hl => match us, hl with | [_, _], _ => rfl)
  have G__law_fan := w__law_fan_fd (P := P) (w := w) (base := base) A F A_d__law_fan
  obtain ⟨fd__law_due, A_d__law_due⟩ := F.d__law_due
  have b__law_due : Binds K fd__law_due P__law_due [] := A_d__law_due.binds (ps := P__law_due) (fun _ _ _ _ _ _ us hl => match us, hl with | [_, _], _ => rfl)
  have G__law_due := w__law_due_fd (P := P) (w := w) (base := base) A F A_d__law_due
  obtain ⟨fd__law_right, A_d__law_right⟩ := F.d__law_right
  have b__law_right : Binds K fd__law_right P__law_right [] := A_d__law_right.binds (ps := P__law_right) (fun _ _ _ _ _ _ us hl => match us, hl with | [_, _], _ => rfl)
  have G__law_right := w__law_right_fd (P := P) (w := w) (base := base) A F A_d__law_right
  refine fn_ok F0 sc_law fun cdv A' outer s H E hr => ?_
  have tk := takes_of (X := (cxOf (L2.CX P w) P w K mg base N_law "law" (defScope s_law) (He.ga K "law") cdv A' outer s H E)) (E := E) rfl rfl rfl rfl
  have po : PassesOwn (model P w) (cxOf (L2.CX P w) P w K mg base N_law "law" (defScope s_law) (He.ga K "law") cdv A' outer s H E).A (cxOf (L2.CX P w) P w K mg base N_law "law" (defScope s_law) (He.ga K "law") cdv A' outer s H E).env (cxOf (L2.CX P w) P w K mg base N_law "law" (defScope s_law) (He.ga K "law") cdv A' outer s H E).xe := passes_of rfl
  exact (s_cons (s_asg false (i := 1) (by exact nd_law) rfl (.inl rfl) (e_call (R := (.l .n)) G__law_empties (hr.mono (by decide)) (by rfl) A.g__law_empties A_d__law_empties.kp b__law_empties tk (a_cons (e_var 0) (a_cons e_int (a_cons e_int a_nil)))))
      (s_cons (s_asg false (i := 2) (by exact nd_law) rfl (.inl rfl) (SE.toLN (e_list (by rfl) A.b_list (a_cons (e_var 1) a_nil))))
      (s_cons (s_for false po rfl (si_list (e_lst (n := 3) (r := .n) (a_cons (e_call (R := .n) G__law_fan (hr.mono (by decide)) (by rfl) A.g__law_fan A_d__law_fan.kp b__law_fan tk (a_cons (e_var 0) (a_cons e_int a_nil))) (a_cons (e_call (R := .n) G__law_fan (hr.mono (by decide)) (by rfl) A.g__law_fan A_d__law_fan.kp b__law_fan tk (a_cons (e_var 0) (a_cons e_int a_nil))) (a_cons (e_call (R := .n) G__law_fan (hr.mono (by decide)) (by rfl) A.g__law_fan A_d__law_fan.kp b__law_fan tk (a_cons (e_var 0) (a_cons e_int a_nil))) a_nil))))) (gt_nm 3 (by exact nd_law) rfl (.inl rfl)) (s_cons (s_asg false (i := 4) (by exact nd_law) rfl (.inl rfl) (e_call (R := (.l (.l .n))) G__law_due (hr.mono (by decide)) (by rfl) A.g__law_due A_d__law_due.kp b__law_due tk (a_cons (e_var 1) (a_cons (e_var 3) a_nil))))
      (s_cons (s_asg false (i := 5) (by exact nd_law) rfl (.inl rfl) (e_call (R := (.l (.l .n))) G_blocks (hr.mono (by decide)) (by rfl) A.g_blocks A_d_blocks.kp b_blocks tk (a_cons (e_var 2) (a_cons (e_var 3) a_nil))))
      (s_cons (s_if (st_not (st_val (e_call (R := .n) G__law_right (hr.mono (by decide)) (by rfl) A.g__law_right A_d__law_right.kp b__law_right tk (a_cons (e_var 5) (a_cons (e_var 4) a_nil))))) (s_one (s_ret e_bl)) s_nil)
      (s_cons (s_forB 6 5 po rfl (by exact nd_law) rfl (by first | exact Or.inl rfl | exact Or.inr (Or.inl rfl) | exact Or.inr (Or.inr rfl)) rfl (.inl rfl) (fun _ => (s_one (s_clr 6 (p_nm 6)))))
      (s_one (s_if (st_not (st_val (e_call (R := .n) G__law_right (hr.mono (by decide)) (by rfl) A.g__law_right A_d__law_right.kp b__law_right tk (a_cons (e_call (R := (.l (.l .n))) G_blocks (hr.mono (by decide)) (by rfl) A.g_blocks A_d_blocks.kp b_blocks tk (a_cons (e_var 2) (a_cons (e_var 3) a_nil))) (a_cons (e_var 4) a_nil))))) (s_one (s_ret e_bl)) s_nil)))))))
      (s_cons (s_if (st_ne hr (e_var 2) (e_lst (n := 0) (r := .n) a_nil)) (s_cons (s_asg false (i := 7) (by exact nd_law) rfl (.inl rfl) (e_mod (e_idx (e_call (R := (.l .n)) G__law_row (hr.mono (by decide)) (by rfl) A.g__law_row A_d__law_row.kp b__law_row tk (a_cons (e_var 0) (a_cons e_int (a_cons (e_lst (n := 1) (r := .n) (a_cons e_int a_nil)) a_nil)))) e_int) (e_len (by rfl) A.b_len (a_cons (e_var 2) a_nil))))
      (s_cons (s_put false 2 (p_nm 2) (e_var 7) (e_not (e_idx (e_var 2) (e_var 7))))
      (s_cons (s_put false 1 (p_nm 1) (e_var 7) (SE.toN (e_idx (e_var 2) (e_var 7))))
      (s_cons (s_asg false (i := 3) (by exact nd_law) rfl (.inl rfl) (e_call (R := .n) G__law_fan (hr.mono (by decide)) (by rfl) A.g__law_fan A_d__law_fan.kp b__law_fan tk (a_cons (e_var 0) (a_cons e_int a_nil))))
      (s_one (s_if (st_not (st_val (e_call (R := .n) G__law_right (hr.mono (by decide)) (by rfl) A.g__law_right A_d__law_right.kp b__law_right tk (a_cons (e_call (R := (.l (.l .n))) G_blocks (hr.mono (by decide)) (by rfl) A.g_blocks A_d_blocks.kp b_blocks tk (a_cons (e_var 2) (a_cons (e_var 3) a_nil))) (a_cons (e_call (R := (.l (.l .n))) G__law_due (hr.mono (by decide)) (by rfl) A.g__law_due A_d__law_due.kp b__law_due tk (a_cons (e_var 1) (a_cons (e_var 3) a_nil))) a_nil))))) (s_one (s_ret e_bl)) s_nil)))))) s_nil)
      (s_one (s_ret (SE.toN (e_and (e_eq hr (e_var 2) (e_var 1)) (e_and (e_eq hr (e_call (R := (.l (.l .n))) G_blocks (hr.mono (by decide)) (by rfl) A.g_blocks A_d_blocks.kp b_blocks tk (a_cons (e_lst (n := 0) (r := .n) a_nil) (a_cons e_int a_nil))) (e_lst (n := 0) (r := .n) a_nil)) (e_one (e_eq hr (e_call (R := (.l (.l .n))) G_blocks (hr.mono (by decide)) (by rfl) A.g_blocks A_d_blocks.kp b_blocks tk (a_cons (e_lst (n := 1) (r := .n) (a_cons e_bl a_nil)) (a_cons e_int a_nil))) (e_lst (n := 1) (r := (.l .n)) (a_cons (e_lst (n := 1) (r := .n) (a_cons (SE.toN (e_tup (a_cons e_int (a_cons e_int (a_cons e_int (a_cons e_int a_nil)))))) a_nil)) a_nil)))))))))))))
end
end Lw
end

namespace Lw
open U
open PySem (Str)
/-! ### the drawn numbers -/
theorem cell_ok (ns : List Int) (p : Int) (h0 : 0 ≤ p) (h1 : p < 100000) : ∃ z, m__law_cell [.scr ns, .int p] = .val (.int z) := by
  by_cases h : p < ns.length
  · refine ⟨ns.getD p.toNat 0, ?_⟩
    have hl : p.toNat < ns.length := by omega
    have e : fIdx (.scr ns) (.int p) = .val (.int (ns.getD p.toNat 0)) := fIdxS_get h0 (by simp [hl])
    unfold m__law_cell b__law_cell
    simp (disch := first | omega | (simp only [List.length_cons, List.length_nil, List.length_map, List.length_set, List.length_append, List.length_replicate, Nat.zero_add, Nat.reduceAdd] <;> omega) | (simp only [noL, noLs, Bool.and_true, Bool.true_and, noLs_ints]; done) | (refine id ?_; with_unfolding_all rfl)) only [runF_ap, ini, List.replicate_succ, List.replicate_zero, List.length_cons, List.length_nil, List.length_set, Nat.reduceAdd, Nat.reduceSub, Nat.reduceLT, Nat.reduceLeDiff, Nat.zero_add, mIf_ap, brS_t, brS_f, brS_e, mSeq_ap, bindS_n, bindS_r, bindS_b, bindS_c, bindS_e, onE_v, onE_e, asgK_ok, mAsg_t, mAsg_f, mRet_ap, mExpr_t, mExpr_f, mRaise_ap, mNext_ap, mRetN_ap, mPass, mBrk, mCont, mRetV_ap, retK_s, mVar_ap, varK_s, mC_ap, bindE_v, bindE_e, m2_ap, b2_vv, b2_ve, b2_e, m1_ap, mN_ap, nK_i, nK_b, nK_n, nK_s, nK_e, nK_t, noL, noLs, Bool.and_true, Bool.true_and, mLN_ap, lnK_ok, mCons_ap, consA_v, consA_e, consA_ve, mNil_ap, mCall_ap, callK_v, callK_e, mTup_ap, mLst_ap, tupK_v, lstK_v, tupK_e, lstK_e, mAnd_ap, mOr_ap, andK_t, andK_f, orK_t, orK_f, andK_e, orK_e, mIfE_ap, ifK_t, ifK_f, mChain_ap, ch2_v, chK_t, chK_f, mSl_ap, slK_ii, slK_ni, slK_in, slK_nn, mInt_ap, intK_i, fAdd_i, fSub_i, fMul_l, fMul_r, fMod_i, fDiv_i, fPow_18, fPow_20, fPow_3, fShl_i, Int.one_mul, fNeg_i, fLt_t, fLt_f, fLe_t, fLe_f, fGt_t, fGt_f, fGe_t, fGe_f, fEq_t, fEq_f, fNe_t, fNe_f, fNot_b, Bool.not_true, Bool.not_false, fIsi_ap, isAdr_i, isAdr_b, isAdr_s, isAdr_l, isAdr_t, isAdr_n, isAdr_c, isK_inti, isK_intb, isK_ints, isK_intl, isK_intt, isK_intn, isK_booli, isK_boolb, isK_bools, isK_booll, isK_boolt, isK_booln, isK_stri, isK_strb, isK_strs, isK_strl, isK_strt, isK_strn, isK_listi, isK_listb, isK_lists, isK_listl, isK_listt, isK_listn, isK_tuplei, isK_tupleb, isK_tuples, isK_tuplel, isK_tuplet, isK_tuplen, isK_listscr, fMax_i, fMin_i, fIsN_n, fIsN_i, fIdx_0, fIdx_1, fIdx_2, fIdx_3, fIdx_4, fIdx_5, fIdx_6, fIdxT_0, fIdxT_1, fIdxT_2, fIdxT_3, fLen_l, fLen_t, fLen_s, fSl_l, fSl_s, fItL_l, fItL_s, fItT_t, mIter_ap, itK_v, mIt1_ap, it1K_v, fRng_1, fRng_2, mFor_t, mFor_f, forK_v, mLc_ap, lcK_v, lcK_e, mAppMv_ap, app1_l, mParN_ap, parK_v, mAsgTz_f, mAsgTz_t, tzK_2, mMut_ap, mutK_0, mut0_appS, mut0_appLa, mut0_ext, mut0_clr, mut0_clrLa, mAsgT_f, mAsgT_t, tK_2, vw_t, vw_f, mFrz_ap, frz_ap, frzK_s, frzK_n, finR_r, finR_nn, finR_nz, List.nil_append, finR_e, Fr.fz, look, dOf_nil, dOf_c, hOf_nil, hOf_c, hid, Option.map_some, Option.map_none, List.set_cons_zero, List.set_cons_succ, List.getElem?_cons_zero, List.getElem?_cons_succ, List.length_map, wipeE, mPut_ap, putK_0, put0_l, put0_la, Int.toNat_natCast, mutK_p, mutI_s, mutP_s, mutQ_app, mutQ_clr, putK_p, putI_s, putP_s, putQ_ok, mSnoc_k, snocK_0, snocK_1, snocK_2, intsD_n, intsD_c, consO_s, dig_n, dig_l, dig_t, digK_s, digF_n, digF_l, digF_t, digFK_s, atI_0, atI_1, atI_2, atI_m1, bury_n, bury_t0, bury_t1, bury_t2, bury_l0, bury_l1, e]
  · have hn : (ns.length : Int) ≤ p := by omega
    let I : Nat → Env → Prop := fun _ e => ∃ z c, e = [some (.z, .scr ns), some (.z, .int p), some (.n, .int z), c] ∧ 0 ≤ z ∧ z < 2147483647
    let Z : OS → Prop := fun o => ∃ z c, o = .next [some (.z, .scr ns), some (.z, .int p), some (.n, .int z), c] ∧ 0 ≤ z ∧ z < 2147483647
    have key : Z (mLoop (.nm 3) l1__law_cell ((cutG ns none (some 63)).map D.int) [some (.z, .scr ns), some (.z, .int p), some (.n, .int 5), none]) := by
      refine loop_run Z I ⟨5, none, rfl, by decide, by decide⟩ ?_ ?_
      · rintro i hi e ⟨z, c, rfl, h2, h3⟩
        rw [List.getElem_map]
        refine ⟨_, rfl, ?_⟩
        unfold l1__law_cell
        simp (disch := first | omega | (simp only [List.length_cons, List.length_nil, List.length_map, List.length_set, List.length_append, List.length_replicate, Nat.zero_add, Nat.reduceAdd] <;> omega) | (simp only [noL, noLs, Bool.and_true, Bool.true_and, noLs_ints]; done) | (refine id ?_; with_unfolding_all rfl)) only [runF_ap, ini, List.replicate_succ, List.replicate_zero, List.length_cons, List.length_nil, List.length_set, Nat.reduceAdd, Nat.reduceSub, Nat.reduceLT, Nat.reduceLeDiff, Nat.zero_add, mIf_ap, brS_t, brS_f, brS_e, mSeq_ap, bindS_n, bindS_r, bindS_b, bindS_c, bindS_e, onE_v, onE_e, asgK_ok, mAsg_t, mAsg_f, mRet_ap, mExpr_t, mExpr_f, mRaise_ap, mNext_ap, mRetN_ap, mPass, mBrk, mCont, mRetV_ap, retK_s, mVar_ap, varK_s, mC_ap, bindE_v, bindE_e, m2_ap, b2_vv, b2_ve, b2_e, m1_ap, mN_ap, nK_i, nK_b, nK_n, nK_s, nK_e, nK_t, noL, noLs, Bool.and_true, Bool.true_and, mLN_ap, lnK_ok, mCons_ap, consA_v, consA_e, consA_ve, mNil_ap, mCall_ap, callK_v, callK_e, mTup_ap, mLst_ap, tupK_v, lstK_v, tupK_e, lstK_e, mAnd_ap, mOr_ap, andK_t, andK_f, orK_t, orK_f, andK_e, orK_e, mIfE_ap, ifK_t, ifK_f, mChain_ap, ch2_v, chK_t, chK_f, mSl_ap, slK_ii, slK_ni, slK_in, slK_nn, mInt_ap, intK_i, fAdd_i, fSub_i, fMul_l, fMul_r, fMod_i, fDiv_i, fPow_18, fPow_20, fPow_3, fShl_i, Int.one_mul, fNeg_i, fLt_t, fLt_f, fLe_t, fLe_f, fGt_t, fGt_f, fGe_t, fGe_f, fEq_t, fEq_f, fNe_t, fNe_f, fNot_b, Bool.not_true, Bool.not_false, fIsi_ap, isAdr_i, isAdr_b, isAdr_s, isAdr_l, isAdr_t, isAdr_n, isAdr_c, isK_inti, isK_intb, isK_ints, isK_intl, isK_intt, isK_intn, isK_booli, isK_boolb, isK_bools, isK_booll, isK_boolt, isK_booln, isK_stri, isK_strb, isK_strs, isK_strl, isK_strt, isK_strn, isK_listi, isK_listb, isK_lists, isK_listl, isK_listt, isK_listn, isK_tuplei, isK_tupleb, isK_tuples, isK_tuplel, isK_tuplet, isK_tuplen, isK_listscr, fMax_i, fMin_i, fIsN_n, fIsN_i, fIdx_0, fIdx_1, fIdx_2, fIdx_3, fIdx_4, fIdx_5, fIdx_6, fIdxT_0, fIdxT_1, fIdxT_2, fIdxT_3, fLen_l, fLen_t, fLen_s, fSl_l, fSl_s, fItL_l, fItL_s, fItT_t, mIter_ap, itK_v, mIt1_ap, it1K_v, fRng_1, fRng_2, mFor_t, mFor_f, forK_v, mLc_ap, lcK_v, lcK_e, mAppMv_ap, app1_l, mParN_ap, parK_v, mAsgTz_f, mAsgTz_t, tzK_2, mMut_ap, mutK_0, mut0_appS, mut0_appLa, mut0_ext, mut0_clr, mut0_clrLa, mAsgT_f, mAsgT_t, tK_2, vw_t, vw_f, mFrz_ap, frz_ap, frzK_s, frzK_n, finR_r, finR_nn, finR_nz, List.nil_append, finR_e, Fr.fz, look, dOf_nil, dOf_c, hOf_nil, hOf_c, hid, Option.map_some, Option.map_none, List.set_cons_zero, List.set_cons_succ, List.getElem?_cons_zero, List.getElem?_cons_succ, List.length_map, wipeE, mPut_ap, putK_0, put0_l, put0_la, Int.toNat_natCast, mutK_p, mutI_s, mutP_s, mutQ_app, mutQ_clr, putK_p, putI_s, putP_s, putQ_ok, mSnoc_k, snocK_0, snocK_1, snocK_2, intsD_n, intsD_c, consO_s, dig_n, dig_l, dig_t, digK_s, digF_n, digF_l, digF_t, digFK_s, atI_0, atI_1, atI_2, atI_m1, bury_n, bury_t0, bury_t1, bury_t2, bury_l0, bury_l1]
        exact ⟨_, _, rfl, Int.emod_nonneg _ (by decide), Int.emod_lt_of_pos _ (by decide)⟩
      · rintro e ⟨z, c, rfl, h2, h3⟩
        exact ⟨z, c, rfl, h2, h3⟩
    obtain ⟨z, c, e, h2, h3⟩ := key
    refine ⟨(z + 7919 * p) % 1000003, ?_⟩
    unfold m__law_cell b__law_cell
    simp (disch := first | omega | (simp only [List.length_cons, List.length_nil, List.length_map, List.length_set, List.length_append, List.length_replicate, Nat.zero_add, Nat.reduceAdd] <;> omega) | (simp only [noL, noLs, Bool.and_true, Bool.true_and, noLs_ints]; done) | (refine id ?_; with_unfolding_all rfl)) only [runF_ap, ini, List.replicate_succ, List.replicate_zero, List.length_cons, List.length_nil, List.length_set, Nat.reduceAdd, Nat.reduceSub, Nat.reduceLT, Nat.reduceLeDiff, Nat.zero_add, mIf_ap, brS_t, brS_f, brS_e, mSeq_ap, bindS_n, bindS_r, bindS_b, bindS_c, bindS_e, onE_v, onE_e, asgK_ok, mAsg_t, mAsg_f, mRet_ap, mExpr_t, mExpr_f, mRaise_ap, mNext_ap, mRetN_ap, mPass, mBrk, mCont, mRetV_ap, retK_s, mVar_ap, varK_s, mC_ap, bindE_v, bindE_e, m2_ap, b2_vv, b2_ve, b2_e, m1_ap, mN_ap, nK_i, nK_b, nK_n, nK_s, nK_e, nK_t, noL, noLs, Bool.and_true, Bool.true_and, mLN_ap, lnK_ok, mCons_ap, consA_v, consA_e, consA_ve, mNil_ap, mCall_ap, callK_v, callK_e, mTup_ap, mLst_ap, tupK_v, lstK_v, tupK_e, lstK_e, mAnd_ap, mOr_ap, andK_t, andK_f, orK_t, orK_f, andK_e, orK_e, mIfE_ap, ifK_t, ifK_f, mChain_ap, ch2_v, chK_t, chK_f, mSl_ap, slK_ii, slK_ni, slK_in, slK_nn, mInt_ap, intK_i, fAdd_i, fSub_i, fMul_l, fMul_r, fMod_i, fDiv_i, fPow_18, fPow_20, fPow_3, fShl_i, Int.one_mul, fNeg_i, fLt_t, fLt_f, fLe_t, fLe_f, fGt_t, fGt_f, fGe_t, fGe_f, fEq_t, fEq_f, fNe_t, fNe_f, fNot_b, Bool.not_true, Bool.not_false, fIsi_ap, isAdr_i, isAdr_b, isAdr_s, isAdr_l, isAdr_t, isAdr_n, isAdr_c, isK_inti, isK_intb, isK_ints, isK_intl, isK_intt, isK_intn, isK_booli, isK_boolb, isK_bools, isK_booll, isK_boolt, isK_booln, isK_stri, isK_strb, isK_strs, isK_strl, isK_strt, isK_strn, isK_listi, isK_listb, isK_lists, isK_listl, isK_listt, isK_listn, isK_tuplei, isK_tupleb, isK_tuples, isK_tuplel, isK_tuplet, isK_tuplen, isK_listscr, fMax_i, fMin_i, fIsN_n, fIsN_i, fIdx_0, fIdx_1, fIdx_2, fIdx_3, fIdx_4, fIdx_5, fIdx_6, fIdxT_0, fIdxT_1, fIdxT_2, fIdxT_3, fLen_l, fLen_t, fLen_s, fSl_l, fSl_s, fItL_l, fItL_s, fItT_t, mIter_ap, itK_v, mIt1_ap, it1K_v, fRng_1, fRng_2, mFor_t, mFor_f, forK_v, mLc_ap, lcK_v, lcK_e, mAppMv_ap, app1_l, mParN_ap, parK_v, mAsgTz_f, mAsgTz_t, tzK_2, mMut_ap, mutK_0, mut0_appS, mut0_appLa, mut0_ext, mut0_clr, mut0_clrLa, mAsgT_f, mAsgT_t, tK_2, vw_t, vw_f, mFrz_ap, frz_ap, frzK_s, frzK_n, finR_r, finR_nn, finR_nz, List.nil_append, finR_e, Fr.fz, look, dOf_nil, dOf_c, hOf_nil, hOf_c, hid, Option.map_some, Option.map_none, List.set_cons_zero, List.set_cons_succ, List.getElem?_cons_zero, List.getElem?_cons_succ, List.length_map, wipeE, mPut_ap, putK_0, put0_l, put0_la, Int.toNat_natCast, mutK_p, mutI_s, mutP_s, mutQ_app, mutQ_clr, putK_p, putI_s, putP_s, putQ_ok, mSnoc_k, snocK_0, snocK_1, snocK_2, intsD_n, intsD_c, consO_s, dig_n, dig_l, dig_t, digK_s, digF_n, digF_l, digF_t, digFK_s, atI_0, atI_1, atI_2, atI_m1, bury_n, bury_t0, bury_t1, bury_t2, bury_l0, bury_l1, e]
theorem mix_ok (c k : Int) (h0 : 0 ≤ k) (h1 : k < 100000) : ∃ z, m__law_mix [.int c, .int k] = .val (.int z) ∧ 0 ≤ z := by
  have hc0 := Int.emod_nonneg c (show (2147483629 : Int) ≠ 0 by decide)
  have hc1 := Int.emod_lt_of_pos c (show (0 : Int) < 2147483629 by decide)
  unfold m__law_mix b__law_mix
  simp (disch := first | omega | (simp only [List.length_cons, List.length_nil, List.length_map, List.length_set, List.length_append, List.length_replicate, Nat.zero_add, Nat.reduceAdd] <;> omega) | (simp only [noL, noLs, Bool.and_true, Bool.true_and, noLs_ints]; done) | (refine id ?_; with_unfolding_all rfl)) only [runF_ap, ini, List.replicate_succ, List.replicate_zero, List.length_cons, List.length_nil, List.length_set, Nat.reduceAdd, Nat.reduceSub, Nat.reduceLT, Nat.reduceLeDiff, Nat.zero_add, mIf_ap, brS_t, brS_f, brS_e, mSeq_ap, bindS_n, bindS_r, bindS_b, bindS_c, bindS_e, onE_v, onE_e, asgK_ok, mAsg_t, mAsg_f, mRet_ap, mExpr_t, mExpr_f, mRaise_ap, mNext_ap, mRetN_ap, mPass, mBrk, mCont, mRetV_ap, retK_s, mVar_ap, varK_s, mC_ap, bindE_v, bindE_e, m2_ap, b2_vv, b2_ve, b2_e, m1_ap, mN_ap, nK_i, nK_b, nK_n, nK_s, nK_e, nK_t, noL, noLs, Bool.and_true, Bool.true_and, mLN_ap, lnK_ok, mCons_ap, consA_v, consA_e, consA_ve, mNil_ap, mCall_ap, callK_v, callK_e, mTup_ap, mLst_ap, tupK_v, lstK_v, tupK_e, lstK_e, mAnd_ap, mOr_ap, andK_t, andK_f, orK_t, orK_f, andK_e, orK_e, mIfE_ap, ifK_t, ifK_f, mChain_ap, ch2_v, chK_t, chK_f, mSl_ap, slK_ii, slK_ni, slK_in, slK_nn, mInt_ap, intK_i, fAdd_i, fSub_i, fMul_l, fMul_r, fMod_i, fDiv_i, fPow_18, fPow_20, fPow_3, fShl_i, Int.one_mul, fNeg_i, fLt_t, fLt_f, fLe_t, fLe_f, fGt_t, fGt_f, fGe_t, fGe_f, fEq_t, fEq_f, fNe_t, fNe_f, fNot_b, Bool.not_true, Bool.not_false, fIsi_ap, isAdr_i, isAdr_b, isAdr_s, isAdr_l, isAdr_t, isAdr_n, isAdr_c, isK_inti, isK_intb, isK_ints, isK_intl, isK_intt, isK_intn, isK_booli, isK_boolb, isK_bools, isK_booll, isK_boolt, isK_booln, isK_stri, isK_strb, isK_strs, isK_strl, isK_strt, isK_strn, isK_listi, isK_listb, isK_lists, isK_listl, isK_listt, isK_listn, isK_tuplei, isK_tupleb, isK_tuples, isK_tuplel, isK_tuplet, isK_tuplen, isK_listscr, fMax_i, fMin_i, fIsN_n, fIsN_i, fIdx_0, fIdx_1, fIdx_2, fIdx_3, fIdx_4, fIdx_5, fIdx_6, fIdxT_0, fIdxT_1, fIdxT_2, fIdxT_3, fLen_l, fLen_t, fLen_s, fSl_l, fSl_s, fItL_l, fItL_s, fItT_t, mIter_ap, itK_v, mIt1_ap, it1K_v, fRng_1, fRng_2, mFor_t, mFor_f, forK_v, mLc_ap, lcK_v, lcK_e, mAppMv_ap, app1_l, mParN_ap, parK_v, mAsgTz_f, mAsgTz_t, tzK_2, mMut_ap, mutK_0, mut0_appS, mut0_appLa, mut0_ext, mut0_clr, mut0_clrLa, mAsgT_f, mAsgT_t, tK_2, vw_t, vw_f, mFrz_ap, frz_ap, frzK_s, frzK_n, finR_r, finR_nn, finR_nz, List.nil_append, finR_e, Fr.fz, look, dOf_nil, dOf_c, hOf_nil, hOf_c, hid, Option.map_some, Option.map_none, List.set_cons_zero, List.set_cons_succ, List.getElem?_cons_zero, List.getElem?_cons_succ, List.length_map, wipeE, mPut_ap, putK_0, put0_l, put0_la, Int.toNat_natCast, mutK_p, mutI_s, mutP_s, mutQ_app, mutQ_clr, putK_p, putI_s, putP_s, putQ_ok, mSnoc_k, snocK_0, snocK_1, snocK_2, intsD_n, intsD_c, consO_s, dig_n, dig_l, dig_t, digK_s, digF_n, digF_l, digF_t, digFK_s, atI_0, atI_1, atI_2, atI_m1, bury_n, bury_t0, bury_t1, bury_t2, bury_l0, bury_l1]
  exact ⟨_, rfl, by omega⟩
/-- each number below its size -/
inductive Below : List Int → List Int → Prop
  | nil : Below [] []
  | cons {x s : Int} {xs ss : List Int} (h0 : 0 ≤ x) (h1 : x < s) (t : Below xs ss) : Below (x :: xs) (s :: ss)
theorem Below.snoc {xs ss : List Int} (h : Below xs ss) {x s : Int} (h0 : 0 ≤ x) (h1 : x < s) : Below (xs ++ [x]) (ss ++ [s]) := by
  induction h with
  | nil => exact .cons h0 h1 .nil
  | cons a b _ ih => exact .cons a b ih
theorem Below.len {xs ss : List Int} (h : Below xs ss) : xs.length = ss.length := by
  induction h with
  | nil => rfl
  | cons _ _ _ ih => simp [ih]
theorem Below.c {xs ss : List Int} {s : Int} (h : Below xs (s :: ss)) : ∃ x t, xs = x :: t ∧ 0 ≤ x ∧ x < s ∧ Below t ss := by
  cases h with
  | cons h0 h1 t => exact ⟨_, _, rfl, h0, h1, t⟩
theorem Below.e {xs : List Int} (h : Below xs []) : xs = [] := by
  cases h
  rfl
def rowEnv (ns : List Int) (p : Int) (ss : List Int) (c : Int) (lf : Fr) (left : Int) (xs : List Int) (k o : Option (Fr × D)) : Env := [some (.z, .scr ns), some (.z, .int p), some (.z, .lst (ss.map .int)), some (.n, .int c), some (lf, .int left), some (.l .n, .lst (xs.map .int)), k, o]
theorem row_step (ns : List Int) (p : Int) (ss : List Int) (c : Int) (left : Int) (xs : List Int) (o : Option (Fr × D)) (lf : Fr) (hlf : lf = .z ∨ lf = .n) (s k : Int) (h0 : 0 ≤ p) (h1 : p < 10000) (hk : 0 ≤ k) (hk1 : k < 1000) (hx : xs.length < 1000) (hs0 : 0 < s) (hs1 : s < 1606938044258990275541962092341162602522202993782792835301376)
    (ei : fIdx (.lst (ss.map .int)) (.int k) = .val (.int s)) : ∃ lf' left' z o', l1__law_row (rowEnv ns p ss c lf left xs (some (.z, .int k)) o) = .next (rowEnv ns p ss c lf' left' (xs ++ [z]) (some (.z, .int k)) o') ∧ (lf' = .z ∨ lf' = .n) ∧ 0 ≤ z ∧ z < s := by
  have hxl : (xs.map D.int).length < 100000 := by rw [List.length_map]; omega
  have fin : ∀ (lf' : Fr) (left' z : Int) (o' : Option (Fr × D)), (lf' = .z ∨ lf' = .n) → l1__law_row (rowEnv ns p ss c lf left xs (some (.z, .int k)) o) = .next (rowEnv ns p ss c lf' left' (xs ++ [z % s]) (some (.z, .int k)) o') → ∃ lf' left' z o', l1__law_row (rowEnv ns p ss c lf left xs (some (.z, .int k)) o) = .next (rowEnv ns p ss c lf' left' (xs ++ [z]) (some (.z, .int k)) o') ∧ (lf' = .z ∨ lf' = .n) ∧ 0 ≤ z ∧ z < s := fun lf' left' z o' a b => ⟨lf', left', z % s, o', b, a, Int.emod_nonneg _ (by omega), Int.emod_lt_of_pos _ hs0⟩
  unfold rowEnv at fin ⊢
  have em : ∀ z : Int, (xs ++ [z]).map D.int = xs.map D.int ++ [D.int z] := fun z => by rw [List.map_append]; rfl
  simp only [em] at fin ⊢
  by_cases hcc : c < 1000000000000000000
  · obtain ⟨z, hz, hz0⟩ := mix_ok c k hk (by omega)
    refine fin lf left z o hlf ?_
    unfold l1__law_row
    simp (disch := first | omega | (simp only [List.length_cons, List.length_nil, List.length_map, List.length_set, List.length_append, List.length_replicate, Nat.zero_add, Nat.reduceAdd] <;> omega) | (simp only [noL, noLs, Bool.and_true, Bool.true_and, noLs_ints]; done) | (refine id ?_; with_unfolding_all rfl)) only [runF_ap, ini, List.replicate_succ, List.replicate_zero, List.length_cons, List.length_nil, List.length_set, Nat.reduceAdd, Nat.reduceSub, Nat.reduceLT, Nat.reduceLeDiff, Nat.zero_add, mIf_ap, brS_t, brS_f, brS_e, mSeq_ap, bindS_n, bindS_r, bindS_b, bindS_c, bindS_e, onE_v, onE_e, asgK_ok, mAsg_t, mAsg_f, mRet_ap, mExpr_t, mExpr_f, mRaise_ap, mNext_ap, mRetN_ap, mPass, mBrk, mCont, mRetV_ap, retK_s, mVar_ap, varK_s, mC_ap, bindE_v, bindE_e, m2_ap, b2_vv, b2_ve, b2_e, m1_ap, mN_ap, nK_i, nK_b, nK_n, nK_s, nK_e, nK_t, noL, noLs, Bool.and_true, Bool.true_and, mLN_ap, lnK_ok, mCons_ap, consA_v, consA_e, consA_ve, mNil_ap, mCall_ap, callK_v, callK_e, mTup_ap, mLst_ap, tupK_v, lstK_v, tupK_e, lstK_e, mAnd_ap, mOr_ap, andK_t, andK_f, orK_t, orK_f, andK_e, orK_e, mIfE_ap, ifK_t, ifK_f, mChain_ap, ch2_v, chK_t, chK_f, mSl_ap, slK_ii, slK_ni, slK_in, slK_nn, mInt_ap, intK_i, fAdd_i, fSub_i, fMul_l, fMul_r, fMod_i, fDiv_i, fPow_18, fPow_20, fPow_3, fShl_i, Int.one_mul, fNeg_i, fLt_t, fLt_f, fLe_t, fLe_f, fGt_t, fGt_f, fGe_t, fGe_f, fEq_t, fEq_f, fNe_t, fNe_f, fNot_b, Bool.not_true, Bool.not_false, fIsi_ap, isAdr_i, isAdr_b, isAdr_s, isAdr_l, isAdr_t, isAdr_n, isAdr_c, isK_inti, isK_intb, isK_ints, isK_intl, isK_intt, isK_intn, isK_booli, isK_boolb, isK_bools, isK_booll, isK_boolt, isK_booln, isK_stri, isK_strb, isK_strs, isK_strl, isK_strt, isK_strn, isK_listi, isK_listb, isK_lists, isK_listl, isK_listt, isK_listn, isK_tuplei, isK_tupleb, isK_tuples, isK_tuplel, isK_tuplet, isK_tuplen, isK_listscr, fMax_i, fMin_i, fIsN_n, fIsN_i, fIdx_0, fIdx_1, fIdx_2, fIdx_3, fIdx_4, fIdx_5, fIdx_6, fIdxT_0, fIdxT_1, fIdxT_2, fIdxT_3, fLen_l, fLen_t, fLen_s, fSl_l, fSl_s, fItL_l, fItL_s, fItT_t, mIter_ap, itK_v, mIt1_ap, it1K_v, fRng_1, fRng_2, mFor_t, mFor_f, forK_v, mLc_ap, lcK_v, lcK_e, mAppMv_ap, app1_l, mParN_ap, parK_v, mAsgTz_f, mAsgTz_t, tzK_2, mMut_ap, mutK_0, mut0_appS, mut0_appLa, mut0_ext, mut0_clr, mut0_clrLa, mAsgT_f, mAsgT_t, tK_2, vw_t, vw_f, mFrz_ap, frz_ap, frzK_s, frzK_n, finR_r, finR_nn, finR_nz, List.nil_append, finR_e, Fr.fz, look, dOf_nil, dOf_c, hOf_nil, hOf_c, hid, Option.map_some, Option.map_none, List.set_cons_zero, List.set_cons_succ, List.getElem?_cons_zero, List.getElem?_cons_succ, List.length_map, wipeE, mPut_ap, putK_0, put0_l, put0_la, Int.toNat_natCast, mutK_p, mutI_s, mutP_s, mutQ_app, mutQ_clr, putK_p, putI_s, putP_s, putQ_ok, mSnoc_k, snocK_0, snocK_1, snocK_2, intsD_n, intsD_c, consO_s, dig_n, dig_l, dig_t, digK_s, digF_n, digF_l, digF_t, digFK_s, atI_0, atI_1, atI_2, atI_m1, bury_n, bury_t0, bury_t1, bury_t2, bury_l0, bury_l1, ei, hz]
  · by_cases hleft : 0 < left
    · refine fin .n (left / s) left o (.inr rfl) ?_
      unfold l1__law_row
      simp (disch := first | omega | (simp only [List.length_cons, List.length_nil, List.length_map, List.length_set, List.length_append, List.length_replicate, Nat.zero_add, Nat.reduceAdd] <;> omega) | (simp only [noL, noLs, Bool.and_true, Bool.true_and, noLs_ints]; done) | (refine id ?_; with_unfolding_all rfl)) only [runF_ap, ini, List.replicate_succ, List.replicate_zero, List.length_cons, List.length_nil, List.length_set, Nat.reduceAdd, Nat.reduceSub, Nat.reduceLT, Nat.reduceLeDiff, Nat.zero_add, mIf_ap, brS_t, brS_f, brS_e, mSeq_ap, bindS_n, bindS_r, bindS_b, bindS_c, bindS_e, onE_v, onE_e, asgK_ok, mAsg_t, mAsg_f, mRet_ap, mExpr_t, mExpr_f, mRaise_ap, mNext_ap, mRetN_ap, mPass, mBrk, mCont, mRetV_ap, retK_s, mVar_ap, varK_s, mC_ap, bindE_v, bindE_e, m2_ap, b2_vv, b2_ve, b2_e, m1_ap, mN_ap, nK_i, nK_b, nK_n, nK_s, nK_e, nK_t, noL, noLs, Bool.and_true, Bool.true_and, mLN_ap, lnK_ok, mCons_ap, consA_v, consA_e, consA_ve, mNil_ap, mCall_ap, callK_v, callK_e, mTup_ap, mLst_ap, tupK_v, lstK_v, tupK_e, lstK_e, mAnd_ap, mOr_ap, andK_t, andK_f, orK_t, orK_f, andK_e, orK_e, mIfE_ap, ifK_t, ifK_f, mChain_ap, ch2_v, chK_t, chK_f, mSl_ap, slK_ii, slK_ni, slK_in, slK_nn, mInt_ap, intK_i, fAdd_i, fSub_i, fMul_l, fMul_r, fMod_i, fDiv_i, fPow_18, fPow_20, fPow_3, fShl_i, Int.one_mul, fNeg_i, fLt_t, fLt_f, fLe_t, fLe_f, fGt_t, fGt_f, fGe_t, fGe_f, fEq_t, fEq_f, fNe_t, fNe_f, fNot_b, Bool.not_true, Bool.not_false, fIsi_ap, isAdr_i, isAdr_b, isAdr_s, isAdr_l, isAdr_t, isAdr_n, isAdr_c, isK_inti, isK_intb, isK_ints, isK_intl, isK_intt, isK_intn, isK_booli, isK_boolb, isK_bools, isK_booll, isK_boolt, isK_booln, isK_stri, isK_strb, isK_strs, isK_strl, isK_strt, isK_strn, isK_listi, isK_listb, isK_lists, isK_listl, isK_listt, isK_listn, isK_tuplei, isK_tupleb, isK_tuples, isK_tuplel, isK_tuplet, isK_tuplen, isK_listscr, fMax_i, fMin_i, fIsN_n, fIsN_i, fIdx_0, fIdx_1, fIdx_2, fIdx_3, fIdx_4, fIdx_5, fIdx_6, fIdxT_0, fIdxT_1, fIdxT_2, fIdxT_3, fLen_l, fLen_t, fLen_s, fSl_l, fSl_s, fItL_l, fItL_s, fItT_t, mIter_ap, itK_v, mIt1_ap, it1K_v, fRng_1, fRng_2, mFor_t, mFor_f, forK_v, mLc_ap, lcK_v, lcK_e, mAppMv_ap, app1_l, mParN_ap, parK_v, mAsgTz_f, mAsgTz_t, tzK_2, mMut_ap, mutK_0, mut0_appS, mut0_appLa, mut0_ext, mut0_clr, mut0_clrLa, mAsgT_f, mAsgT_t, tK_2, vw_t, vw_f, mFrz_ap, frz_ap, frzK_s, frzK_n, finR_r, finR_nn, finR_nz, List.nil_append, finR_e, Fr.fz, look, dOf_nil, dOf_c, hOf_nil, hOf_c, hid, Option.map_some, Option.map_none, List.set_cons_zero, List.set_cons_succ, List.getElem?_cons_zero, List.getElem?_cons_succ, List.length_map, wipeE, mPut_ap, putK_0, put0_l, put0_la, Int.toNat_natCast, mutK_p, mutI_s, mutP_s, mutQ_app, mutQ_clr, putK_p, putI_s, putP_s, putQ_ok, mSnoc_k, snocK_0, snocK_1, snocK_2, intsD_n, intsD_c, consO_s, dig_n, dig_l, dig_t, digK_s, digF_n, digF_l, digF_t, digFK_s, atI_0, atI_1, atI_2, atI_m1, bury_n, bury_t0, bury_t1, bury_t2, bury_l0, bury_l1, ei]
    · obtain ⟨c2, hc2⟩ := cell_ok ns ((p + 1 + k) % 63) (by omega) (by omega)
      obtain ⟨z2, hz2, hz20⟩ := mix_ok c2 k hk (by omega)
      refine fin lf left z2 (some (.n, .int c2)) hlf ?_
      unfold l1__law_row
      simp (disch := first | omega | (simp only [List.length_cons, List.length_nil, List.length_map, List.length_set, List.length_append, List.length_replicate, Nat.zero_add, Nat.reduceAdd] <;> omega) | (simp only [noL, noLs, Bool.and_true, Bool.true_and, noLs_ints]; done) | (refine id ?_; with_unfolding_all rfl)) only [runF_ap, ini, List.replicate_succ, List.replicate_zero, List.length_cons, List.length_nil, List.length_set, Nat.reduceAdd, Nat.reduceSub, Nat.reduceLT, Nat.reduceLeDiff, Nat.zero_add, mIf_ap, brS_t, brS_f, brS_e, mSeq_ap, bindS_n, bindS_r, bindS_b, bindS_c, bindS_e, onE_v, onE_e, asgK_ok, mAsg_t, mAsg_f, mRet_ap, mExpr_t, mExpr_f, mRaise_ap, mNext_ap, mRetN_ap, mPass, mBrk, mCont, mRetV_ap, retK_s, mVar_ap, varK_s, mC_ap, bindE_v, bindE_e, m2_ap, b2_vv, b2_ve, b2_e, m1_ap, mN_ap, nK_i, nK_b, nK_n, nK_s, nK_e, nK_t, noL, noLs, Bool.and_true, Bool.true_and, mLN_ap, lnK_ok, mCons_ap, consA_v, consA_e, consA_ve, mNil_ap, mCall_ap, callK_v, callK_e, mTup_ap, mLst_ap, tupK_v, lstK_v, tupK_e, lstK_e, mAnd_ap, mOr_ap, andK_t, andK_f, orK_t, orK_f, andK_e, orK_e, mIfE_ap, ifK_t, ifK_f, mChain_ap, ch2_v, chK_t, chK_f, mSl_ap, slK_ii, slK_ni, slK_in, slK_nn, mInt_ap, intK_i, fAdd_i, fSub_i, fMul_l, fMul_r, fMod_i, fDiv_i, fPow_18, fPow_20, fPow_3, fShl_i, Int.one_mul, fNeg_i, fLt_t, fLt_f, fLe_t, fLe_f, fGt_t, fGt_f, fGe_t, fGe_f, fEq_t, fEq_f, fNe_t, fNe_f, fNot_b, Bool.not_true, Bool.not_false, fIsi_ap, isAdr_i, isAdr_b, isAdr_s, isAdr_l, isAdr_t, isAdr_n, isAdr_c, isK_inti, isK_intb, isK_ints, isK_intl, isK_intt, isK_intn, isK_booli, isK_boolb, isK_bools, isK_booll, isK_boolt, isK_booln, isK_stri, isK_strb, isK_strs, isK_strl, isK_strt, isK_strn, isK_listi, isK_listb, isK_lists, isK_listl, isK_listt, isK_listn, isK_tuplei, isK_tupleb, isK_tuples, isK_tuplel, isK_tuplet, isK_tuplen, isK_listscr, fMax_i, fMin_i, fIsN_n, fIsN_i, fIdx_0, fIdx_1, fIdx_2, fIdx_3, fIdx_4, fIdx_5, fIdx_6, fIdxT_0, fIdxT_1, fIdxT_2, fIdxT_3, fLen_l, fLen_t, fLen_s, fSl_l, fSl_s, fItL_l, fItL_s, fItT_t, mIter_ap, itK_v, mIt1_ap, it1K_v, fRng_1, fRng_2, mFor_t, mFor_f, forK_v, mLc_ap, lcK_v, lcK_e, mAppMv_ap, app1_l, mParN_ap, parK_v, mAsgTz_f, mAsgTz_t, tzK_2, mMut_ap, mutK_0, mut0_appS, mut0_appLa, mut0_ext, mut0_clr, mut0_clrLa, mAsgT_f, mAsgT_t, tK_2, vw_t, vw_f, mFrz_ap, frz_ap, frzK_s, frzK_n, finR_r, finR_nn, finR_nz, List.nil_append, finR_e, Fr.fz, look, dOf_nil, dOf_c, hOf_nil, hOf_c, hid, Option.map_some, Option.map_none, List.set_cons_zero, List.set_cons_succ, List.getElem?_cons_zero, List.getElem?_cons_succ, List.length_map, wipeE, mPut_ap, putK_0, put0_l, put0_la, Int.toNat_natCast, mutK_p, mutI_s, mutP_s, mutQ_app, mutQ_clr, putK_p, putI_s, putP_s, putQ_ok, mSnoc_k, snocK_0, snocK_1, snocK_2, intsD_n, intsD_c, consO_s, dig_n, dig_l, dig_t, digK_s, digF_n, digF_l, digF_t, digFK_s, atI_0, atI_1, atI_2, atI_m1, bury_n, bury_t0, bury_t1, bury_t2, bury_l0, bury_l1, ei, hc2, hz2]
theorem row_ok (ns : List Int) (p : Int) (ss : List Int) (h0 : 0 ≤ p) (h1 : p < 10000) (hl : ss.length < 1000) (hs : ∀ s ∈ ss, 0 < s ∧ s < 1606938044258990275541962092341162602522202993782792835301376) : ∃ xs, m__law_row [.scr ns, .int p, .lst (ss.map .int)] = .val (.lst (xs.map .int)) ∧ Below xs ss := by
  obtain ⟨c, hc⟩ := cell_ok ns p h0 (by omega)
  let I : Nat → Env → Prop := fun i e => ∃ lf left xs k o, e = rowEnv ns p ss c lf left xs k o ∧ (lf = .z ∨ lf = .n) ∧ Below xs (ss.take i)
  let Z : OS → Prop := fun o => ∃ e xs, o = .next e ∧ e[5]? = some (some (.l .n, .lst (xs.map .int))) ∧ Below xs ss
  have key : Z (mLoop (.nm 6) l1__law_row (rng 0 ss.length) [some (.z, .scr ns), some (.z, .int p), some (.z, .lst (ss.map .int)), some (.n, .int c), some (.z, .int c), some (.l .n, .lst []), none, none]) := by
    refine loop_rng Z I ⟨.z, c, [], none, none, rfl, .inl rfl, .nil⟩ ?_ ?_
    · rintro i hi e ⟨lf, left, xs, k, o, rfl, hlf, hb⟩
      have hx : xs.length = i := by have := hb.len; rw [List.length_take] at this; omega
      obtain ⟨hs0, hs1⟩ := hs ss[i] (List.getElem_mem hi)
      have ei : fIdx (.lst (ss.map .int)) (.int (0 + (i : Int))) = .val (.int ss[i]) := fIdx_get (by omega) (by
        have : (0 + (i : Int)).toNat = i := by omega
        rw [this]
        simp [hi])
      obtain ⟨lf', left', z, o', g1, g2, g3, g4⟩ := row_step ns p ss c left xs o lf hlf ss[i] (0 + (i : Int)) h0 h1 (by omega) (by omega) (by omega) hs0 hs1 ei
      refine ⟨Nat.lt_of_lt_of_le (by decide) (Nat.le_refl 8), ?_⟩
      have g5 : (rowEnv ns p ss c lf left xs k o).set 6 (some (.z, .int (0 + (i : Int)))) = rowEnv ns p ss c lf left xs (some (.z, .int (0 + (i : Int)))) o := rfl
      rw [g5, g1]
      refine ⟨lf', left', xs ++ [z], _, o', rfl, g2, ?_⟩
      rw [List.take_succ_eq_append_getElem hi]
      exact hb.snoc g3 g4
    · rintro e ⟨lf, left, xs, k, o, rfl, hlf, hb⟩
      rw [List.take_length] at hb
      exact ⟨_, xs, rfl, rfl, hb⟩
  obtain ⟨e, xs, he, h5, hb⟩ := key
  refine ⟨xs, ?_, hb⟩
  unfold m__law_row b__law_row
  have hL : (((ss.length : Nat) : Int)).toNat = ss.length := by omega
  simp (disch := first | omega | (simp only [List.length_cons, List.length_nil, List.length_map, List.length_set, List.length_append, List.length_replicate, Nat.zero_add, Nat.reduceAdd] <;> omega) | (simp only [noL, noLs, Bool.and_true, Bool.true_and, noLs_ints]; done) | (refine id ?_; with_unfolding_all rfl)) only [runF_ap, ini, List.replicate_succ, List.replicate_zero, List.length_cons, List.length_nil, List.length_set, Nat.reduceAdd, Nat.reduceSub, Nat.reduceLT, Nat.reduceLeDiff, Nat.zero_add, mIf_ap, brS_t, brS_f, brS_e, mSeq_ap, bindS_n, bindS_r, bindS_b, bindS_c, bindS_e, onE_v, onE_e, asgK_ok, mAsg_t, mAsg_f, mRet_ap, mExpr_t, mExpr_f, mRaise_ap, mNext_ap, mRetN_ap, mPass, mBrk, mCont, mRetV_ap, retK_s, mVar_ap, varK_s, mC_ap, bindE_v, bindE_e, m2_ap, b2_vv, b2_ve, b2_e, m1_ap, mN_ap, nK_i, nK_b, nK_n, nK_s, nK_e, nK_t, noL, noLs, Bool.and_true, Bool.true_and, mLN_ap, lnK_ok, mCons_ap, consA_v, consA_e, consA_ve, mNil_ap, mCall_ap, callK_v, callK_e, mTup_ap, mLst_ap, tupK_v, lstK_v, tupK_e, lstK_e, mAnd_ap, mOr_ap, andK_t, andK_f, orK_t, orK_f, andK_e, orK_e, mIfE_ap, ifK_t, ifK_f, mChain_ap, ch2_v, chK_t, chK_f, mSl_ap, slK_ii, slK_ni, slK_in, slK_nn, mInt_ap, intK_i, fAdd_i, fSub_i, fMul_l, fMul_r, fMod_i, fDiv_i, fPow_18, fPow_20, fPow_3, fShl_i, Int.one_mul, fNeg_i, fLt_t, fLt_f, fLe_t, fLe_f, fGt_t, fGt_f, fGe_t, fGe_f, fEq_t, fEq_f, fNe_t, fNe_f, fNot_b, Bool.not_true, Bool.not_false, fIsi_ap, isAdr_i, isAdr_b, isAdr_s, isAdr_l, isAdr_t, isAdr_n, isAdr_c, isK_inti, isK_intb, isK_ints, isK_intl, isK_intt, isK_intn, isK_booli, isK_boolb, isK_bools, isK_booll, isK_boolt, isK_booln, isK_stri, isK_strb, isK_strs, isK_strl, isK_strt, isK_strn, isK_listi, isK_listb, isK_lists, isK_listl, isK_listt, isK_listn, isK_tuplei, isK_tupleb, isK_tuples, isK_tuplel, isK_tuplet, isK_tuplen, isK_listscr, fMax_i, fMin_i, fIsN_n, fIsN_i, fIdx_0, fIdx_1, fIdx_2, fIdx_3, fIdx_4, fIdx_5, fIdx_6, fIdxT_0, fIdxT_1, fIdxT_2, fIdxT_3, fLen_l, fLen_t, fLen_s, fSl_l, fSl_s, fItL_l, fItL_s, fItT_t, mIter_ap, itK_v, mIt1_ap, it1K_v, fRng_1, fRng_2, mFor_t, mFor_f, forK_v, mLc_ap, lcK_v, lcK_e, mAppMv_ap, app1_l, mParN_ap, parK_v, mAsgTz_f, mAsgTz_t, tzK_2, mMut_ap, mutK_0, mut0_appS, mut0_appLa, mut0_ext, mut0_clr, mut0_clrLa, mAsgT_f, mAsgT_t, tK_2, vw_t, vw_f, mFrz_ap, frz_ap, frzK_s, frzK_n, finR_r, finR_nn, finR_nz, List.nil_append, finR_e, Fr.fz, look, dOf_nil, dOf_c, hOf_nil, hOf_c, hid, Option.map_some, Option.map_none, List.set_cons_zero, List.set_cons_succ, List.getElem?_cons_zero, List.getElem?_cons_succ, List.length_map, wipeE, mPut_ap, putK_0, put0_l, put0_la, Int.toNat_natCast, mutK_p, mutI_s, mutP_s, mutQ_app, mutQ_clr, putK_p, putI_s, putP_s, putQ_ok, mSnoc_k, snocK_0, snocK_1, snocK_2, intsD_n, intsD_c, consO_s, dig_n, dig_l, dig_t, digK_s, digF_n, digF_l, digF_t, digFK_s, atI_0, atI_1, atI_2, atI_m1, bury_n, bury_t0, bury_t1, bury_t2, bury_l0, bury_l1, hc, hL, he, h5]

/-! ### rooms, fans, needs -/
theorem Below.rep {xs : List Int} {m : Nat} {s : Int} (h : Below xs (List.replicate m s)) : xs.length = m ∧ ∀ i, i < m → 0 ≤ xs.getD i 0 ∧ xs.getD i 0 < s := by
  refine ⟨by rw [h.len]; simp, ?_⟩
  induction m generalizing xs with
  | zero => intro i hi; omega
  | succ m ih =>
    rw [List.replicate_succ] at h
    obtain ⟨x, t, rfl, a, b, h⟩ := h.c
    intro i hi
    cases i with
    | zero => exact ⟨a, b⟩
    | succ i => simpa using ih h i (by omega)
theorem fan_ok (ns : List Int) (p : Int) (h0 : 0 ≤ p) (h1 : p < 10000) : ∃ f : Nat, m__law_fan [.scr ns, .int p] = .val (.int (f : Int)) ∧ 2 ≤ f ∧ f ≤ 8 := by
  obtain ⟨xs, hr, hb⟩ := row_ok ns p [7] h0 h1 (by decide) (by decide)
  obtain ⟨x0, _, rfl, a0, b0, hb⟩ := hb.c
  obtain rfl := hb.e
  simp only [List.map] at hr
  obtain ⟨f, hf⟩ : ∃ f : Nat, 2 + x0 = (f : Int) := ⟨(2 + x0).toNat, by omega⟩
  refine ⟨f, ?_, by omega, by omega⟩
  unfold m__law_fan b__law_fan
  simp (disch := first | omega | (simp only [List.length_cons, List.length_nil, List.length_map, List.length_set, List.length_append, List.length_replicate, Nat.zero_add, Nat.reduceAdd] <;> omega) | (simp only [noL, noLs, Bool.and_true, Bool.true_and, noLs_ints]; done) | (refine id ?_; with_unfolding_all rfl)) only [runF_ap, ini, List.replicate_succ, List.replicate_zero, List.length_cons, List.length_nil, List.length_set, Nat.reduceAdd, Nat.reduceSub, Nat.reduceLT, Nat.reduceLeDiff, Nat.zero_add, mIf_ap, brS_t, brS_f, brS_e, mSeq_ap, bindS_n, bindS_r, bindS_b, bindS_c, bindS_e, onE_v, onE_e, asgK_ok, mAsg_t, mAsg_f, mRet_ap, mExpr_t, mExpr_f, mRaise_ap, mNext_ap, mRetN_ap, mPass, mBrk, mCont, mRetV_ap, retK_s, mVar_ap, varK_s, mC_ap, bindE_v, bindE_e, m2_ap, b2_vv, b2_ve, b2_e, m1_ap, mN_ap, nK_i, nK_b, nK_n, nK_s, nK_e, nK_t, noL, noLs, Bool.and_true, Bool.true_and, mLN_ap, lnK_ok, mCons_ap, consA_v, consA_e, consA_ve, mNil_ap, mCall_ap, callK_v, callK_e, mTup_ap, mLst_ap, tupK_v, lstK_v, tupK_e, lstK_e, mAnd_ap, mOr_ap, andK_t, andK_f, orK_t, orK_f, andK_e, orK_e, mIfE_ap, ifK_t, ifK_f, mChain_ap, ch2_v, chK_t, chK_f, mSl_ap, slK_ii, slK_ni, slK_in, slK_nn, mInt_ap, intK_i, fAdd_i, fSub_i, fMul_l, fMul_r, fMod_i, fDiv_i, fPow_18, fPow_20, fPow_3, fShl_i, Int.one_mul, fNeg_i, fLt_t, fLt_f, fLe_t, fLe_f, fGt_t, fGt_f, fGe_t, fGe_f, fEq_t, fEq_f, fNe_t, fNe_f, fNot_b, Bool.not_true, Bool.not_false, fIsi_ap, isAdr_i, isAdr_b, isAdr_s, isAdr_l, isAdr_t, isAdr_n, isAdr_c, isK_inti, isK_intb, isK_ints, isK_intl, isK_intt, isK_intn, isK_booli, isK_boolb, isK_bools, isK_booll, isK_boolt, isK_booln, isK_stri, isK_strb, isK_strs, isK_strl, isK_strt, isK_strn, isK_listi, isK_listb, isK_lists, isK_listl, isK_listt, isK_listn, isK_tuplei, isK_tupleb, isK_tuples, isK_tuplel, isK_tuplet, isK_tuplen, isK_listscr, fMax_i, fMin_i, fIsN_n, fIsN_i, fIdx_0, fIdx_1, fIdx_2, fIdx_3, fIdx_4, fIdx_5, fIdx_6, fIdxT_0, fIdxT_1, fIdxT_2, fIdxT_3, fLen_l, fLen_t, fLen_s, fSl_l, fSl_s, fItL_l, fItL_s, fItT_t, mIter_ap, itK_v, mIt1_ap, it1K_v, fRng_1, fRng_2, mFor_t, mFor_f, forK_v, mLc_ap, lcK_v, lcK_e, mAppMv_ap, app1_l, mParN_ap, parK_v, mAsgTz_f, mAsgTz_t, tzK_2, mMut_ap, mutK_0, mut0_appS, mut0_appLa, mut0_ext, mut0_clr, mut0_clrLa, mAsgT_f, mAsgT_t, tK_2, vw_t, vw_f, mFrz_ap, frz_ap, frzK_s, frzK_n, finR_r, finR_nn, finR_nz, List.nil_append, finR_e, Fr.fz, look, dOf_nil, dOf_c, hOf_nil, hOf_c, hid, Option.map_some, Option.map_none, List.set_cons_zero, List.set_cons_succ, List.getElem?_cons_zero, List.getElem?_cons_succ, List.length_map, wipeE, mPut_ap, putK_0, put0_l, put0_la, Int.toNat_natCast, mutK_p, mutI_s, mutP_s, mutQ_app, mutQ_clr, putK_p, putI_s, putP_s, putQ_ok, mSnoc_k, snocK_0, snocK_1, snocK_2, intsD_n, intsD_c, consO_s, dig_n, dig_l, dig_t, digK_s, digF_n, digF_l, digF_t, digFK_s, atI_0, atI_1, atI_2, atI_m1, bury_n, bury_t0, bury_t1, bury_t2, bury_l0, bury_l1, hr, hf]
def IsRooms (rs : List Int) : Prop := ∀ r ∈ rs, 0 ≤ r ∧ r ≤ 1000000000000000000
theorem fPow_6 : fPow (.int 10) (.int 6) = .val (.int 1000000) := id rfl
theorem fPow_59 : fPow (.int 10) (.int 59) = .val (.int 100000000000000000000000000000000000000000000000000000000000) := id rfl
theorem maxI_le {ns : List Int} {b : Int} (hn : 0 < ns.length) (h : ∀ r ∈ ns, 0 ≤ r ∧ r ≤ b) : 0 ≤ maxI ns ∧ maxI ns ≤ b := by
  have := maxI_spec hn
  exact h _ this.1

/-! ### the law's own tree -/
def up (f n : Nat) : Nat := (n + f - 1) / f
/-- how many nodes a level has: l levels above n -/
def cl (f l n : Nat) : Nat := (n + f ^ l - 1) / f ^ l
theorem up_le {f n k : Nat} (hf : 0 < f) : up f n ≤ k ↔ n ≤ k * f := by
  unfold up
  rw [← Nat.lt_succ_iff, Nat.div_lt_iff_lt_mul hf, Nat.succ_mul]
  omega
theorem cl_le {f l n k : Nat} (hf : 0 < f) : cl f l n ≤ k ↔ n ≤ k * f ^ l := @up_le (f ^ l) n k (Nat.pow_pos hf)
theorem up_cl {f l n : Nat} (hf : 0 < f) : up f (cl f l n) = cl f (l + 1) n := by
  have h : ∀ k, up f (cl f l n) ≤ k ↔ cl f (l + 1) n ≤ k := fun k => by
    rw [up_le hf, cl_le hf, cl_le hf, Nat.pow_succ, Nat.mul_assoc, Nat.mul_comm f]
  exact Nat.le_antisymm ((h _).mpr (Nat.le_refl _)) ((h _).mp (Nat.le_refl _))
theorem cl_0 {f n : Nat} : cl f 0 n = n := by simp [cl]
theorem up_lt {f n : Nat} (hf : 2 ≤ f) (hn : 2 ≤ n) : up f n < n := by
  have : up f n ≤ n - 1 := (up_le (by omega)).mpr (by
    have := Nat.mul_le_mul_left (n - 1) hf
    omega)
  omega
theorem up_pos {f n : Nat} (hf : 0 < f) (hn : 0 < n) : 0 < up f n := by
  rcases Nat.eq_zero_or_pos (up f n) with h | h
  · have := (up_le (n := n) (k := 0) hf).mp (by omega)
    omega
  · exact h
/-- the numbers of nodes from a level on -/
def lvF (f : Nat) : Nat → Nat → List Nat
  | 0, n => [n]
  | k + 1, n => if n ≤ 1 then [n] else n :: lvF f k (up f n)
def lv (f n : Nat) : List Nat := if n = 0 then [] else lvF f n n
theorem lvF_more {f : Nat} (hf : 2 ≤ f) : ∀ {k n m : Nat}, n ≤ k → n ≤ m → lvF f k n = lvF f m n
  | 0, n, 0, _, _ => rfl
  | 0, n, m + 1, h, _ => by
    have : n ≤ 1 := by omega
    simp [lvF, this]
  | k + 1, n, 0, _, h => by
    have : n ≤ 1 := by omega
    simp [lvF, this]
  | k + 1, n, m + 1, h1, h2 => by
    unfold lvF
    split
    · rfl
    · have := up_lt hf (show 2 ≤ n by omega)
      rw [lvF_more hf (by omega) (show up f n ≤ m by omega)]
theorem lvF_get {f : Nat} (hf : 0 < f) : ∀ {k n i : Nat} (h : i < (lvF f k n).length), (lvF f k n)[i] = cl f i n
  | 0, n, i, h => by
    have e : i = 0 := by simp [lvF] at h; exact h
    subst e
    simp [lvF, cl_0]
  | k + 1, n, i, h => by
    unfold lvF at h ⊢
    split
    · rename_i g
      simp only [g, if_true] at h
      have e : i = 0 := by simpa using h
      subst e
      simp [cl_0]
    · rename_i g
      cases i with
      | zero => simp [cl_0]
      | succ i =>
        simp only [g, if_false, List.length_cons] at h
        simp only [List.getElem_cons_succ]
        rw [lvF_get hf (by omega)]
        show (up f n + f ^ i - 1) / f ^ i = _
        have := @up_cl f i n hf
        have e1 : cl f i (up f n) = cl f (i + 1) n := by
          have h : ∀ k, cl f i (up f n) ≤ k ↔ cl f (i + 1) n ≤ k := fun k => by
            rw [cl_le hf, up_le hf, cl_le hf, Nat.pow_succ, Nat.mul_assoc]
          exact Nat.le_antisymm ((h _).mpr (Nat.le_refl _)) ((h _).mp (Nat.le_refl _))
        exact e1
theorem lv_get {f n i : Nat} (hf : 0 < f) (h : i < (lv f n).length) : (lv f n)[i] = cl f i n := by
  unfold lv at h ⊢
  split
  · rename_i g; simp [g] at h
  · rename_i g
    simp only [g, if_false] at h
    exact lvF_get hf h
/-- on each level but the last there are more nodes than one -/
theorem lvF_big {f : Nat} (hf : 0 < f) : ∀ {k n i : Nat}, i + 1 < (lvF f k n).length → 1 < cl f i n
  | 0, n, i, h => by simp [lvF] at h
  | k + 1, n, i, h => by
    unfold lvF at h
    split at h
    · simp at h
    · rename_i g
      cases i with
      | zero => rw [cl_0]; omega
      | succ i =>
        have := @lvF_big f hf k (up f n) i (by simpa using h)
        have e1 : cl f i (up f n) = cl f (i + 1) n := by
          have h : ∀ k, cl f i (up f n) ≤ k ↔ cl f (i + 1) n ≤ k := fun k => by
            rw [cl_le hf, up_le hf, cl_le hf, Nat.pow_succ, Nat.mul_assoc]
          exact Nat.le_antisymm ((h _).mpr (Nat.le_refl _)) ((h _).mp (Nat.le_refl _))
        omega
theorem lv_big {f n i : Nat} (hf : 0 < f) (h : i + 1 < (lv f n).length) : 1 < cl f i n := by
  unfold lv at h
  split at h
  · simp at h
  · exact lvF_big hf h
theorem lv_len {f n : Nat} (hf : 2 ≤ f) (hn : n ≤ 256) : (lv f n).length ≤ 9 := by
  rcases Nat.lt_or_ge 9 (lv f n).length with h | h
  · have h1 := @lv_big f n 8 (by omega) (by omega)
    have h2 : cl f 8 n ≤ 1 := (cl_le (by omega)).mpr (by
      have := Nat.pow_le_pow_left hf 8
      omega)
    omega
  · exact h
theorem lv_ne {f n : Nat} (hn : 0 < n) : 0 < (lv f n).length := by
  unfold lv
  rw [if_neg (by omega)]
  cases n with
  | zero => omega
  | succ n => unfold lvF; split <;> simp
theorem counts_ok (n f : Nat) (hn : n ≤ 900) (h2 : 2 ≤ f) (h8 : f ≤ 8) : m__law_counts [.int (n : Int), .int (f : Int)] = .val (.lst ((lv f n).map fun (c : Nat) => .int (c : Int))) := by
  by_cases h0 : n = 0
  · subst h0
    unfold m__law_counts b__law_counts
    simp (disch := first | omega | (simp only [List.length_cons, List.length_nil, List.length_map, List.length_set, List.length_append, List.length_replicate, Nat.zero_add, Nat.reduceAdd] <;> omega) | (simp only [noL, noLs, Bool.and_true, Bool.true_and, noLs_ints]; done) | (refine id ?_; with_unfolding_all rfl)) only [runF_ap, ini, List.replicate_succ, List.replicate_zero, List.length_cons, List.length_nil, List.length_set, Nat.reduceAdd, Nat.reduceSub, Nat.reduceLT, Nat.reduceLeDiff, Nat.zero_add, mIf_ap, brS_t, brS_f, brS_e, mSeq_ap, bindS_n, bindS_r, bindS_b, bindS_c, bindS_e, onE_v, onE_e, asgK_ok, mAsg_t, mAsg_f, mRet_ap, mExpr_t, mExpr_f, mRaise_ap, mNext_ap, mRetN_ap, mPass, mBrk, mCont, mRetV_ap, retK_s, mVar_ap, varK_s, mC_ap, bindE_v, bindE_e, m2_ap, b2_vv, b2_ve, b2_e, m1_ap, mN_ap, nK_i, nK_b, nK_n, nK_s, nK_e, nK_t, noL, noLs, Bool.and_true, Bool.true_and, mLN_ap, lnK_ok, mCons_ap, consA_v, consA_e, consA_ve, mNil_ap, mCall_ap, callK_v, callK_e, mTup_ap, mLst_ap, tupK_v, lstK_v, tupK_e, lstK_e, mAnd_ap, mOr_ap, andK_t, andK_f, orK_t, orK_f, andK_e, orK_e, mIfE_ap, ifK_t, ifK_f, mChain_ap, ch2_v, chK_t, chK_f, mSl_ap, slK_ii, slK_ni, slK_in, slK_nn, mInt_ap, intK_i, fAdd_i, fSub_i, fMul_l, fMul_r, fMod_i, fDiv_i, fPow_18, fPow_20, fPow_3, fShl_i, Int.one_mul, fNeg_i, fLt_t, fLt_f, fLe_t, fLe_f, fGt_t, fGt_f, fGe_t, fGe_f, fEq_t, fEq_f, fNe_t, fNe_f, fNot_b, Bool.not_true, Bool.not_false, fIsi_ap, isAdr_i, isAdr_b, isAdr_s, isAdr_l, isAdr_t, isAdr_n, isAdr_c, isK_inti, isK_intb, isK_ints, isK_intl, isK_intt, isK_intn, isK_booli, isK_boolb, isK_bools, isK_booll, isK_boolt, isK_booln, isK_stri, isK_strb, isK_strs, isK_strl, isK_strt, isK_strn, isK_listi, isK_listb, isK_lists, isK_listl, isK_listt, isK_listn, isK_tuplei, isK_tupleb, isK_tuples, isK_tuplel, isK_tuplet, isK_tuplen, isK_listscr, fMax_i, fMin_i, fIsN_n, fIsN_i, fIdx_0, fIdx_1, fIdx_2, fIdx_3, fIdx_4, fIdx_5, fIdx_6, fIdxT_0, fIdxT_1, fIdxT_2, fIdxT_3, fLen_l, fLen_t, fLen_s, fSl_l, fSl_s, fItL_l, fItL_s, fItT_t, mIter_ap, itK_v, mIt1_ap, it1K_v, fRng_1, fRng_2, mFor_t, mFor_f, forK_v, mLc_ap, lcK_v, lcK_e, mAppMv_ap, app1_l, mParN_ap, parK_v, mAsgTz_f, mAsgTz_t, tzK_2, mMut_ap, mutK_0, mut0_appS, mut0_appLa, mut0_ext, mut0_clr, mut0_clrLa, mAsgT_f, mAsgT_t, tK_2, vw_t, vw_f, mFrz_ap, frz_ap, frzK_s, frzK_n, finR_r, finR_nn, finR_nz, List.nil_append, finR_e, Fr.fz, look, dOf_nil, dOf_c, hOf_nil, hOf_c, hid, Option.map_some, Option.map_none, List.set_cons_zero, List.set_cons_succ, List.getElem?_cons_zero, List.getElem?_cons_succ, List.length_map, wipeE, mPut_ap, putK_0, put0_l, put0_la, Int.toNat_natCast, mutK_p, mutI_s, mutP_s, mutQ_app, mutQ_clr, putK_p, putI_s, putP_s, putQ_ok, mSnoc_k, snocK_0, snocK_1, snocK_2, intsD_n, intsD_c, consO_s, dig_n, dig_l, dig_t, digK_s, digF_n, digF_l, digF_t, digFK_s, atI_0, atI_1, atI_2, atI_m1, bury_n, bury_t0, bury_t1, bury_t2, bury_l0, bury_l1]
    rfl
  · have h0' : ((n : Nat) : Int) ≠ 0 := by omega
    let I : Nat → Env → Prop := fun m e => ∃ pre last, m = last ∧ 1 ≤ last ∧ last ≤ n ∧ pre.length + last ≤ n ∧ pre ++ lvF f last last = lvF f n n ∧ e = [some (.z, .int (n : Int)), some (.z, .int (f : Int)), some (.l .n, .lst ((pre.map fun (c : Nat) => .int (c : Int)) ++ [.int (last : Int)]))]
    let Z : OS → Prop := fun o => o = .next [some (.z, .int (n : Int)), some (.z, .int (f : Int)), some (.l .n, .lst ((lvF f n n).map fun (c : Nat) => .int (c : Int)))]
    have key : Z (mWhile (m2 fGt (m2 fIdx (mVar 2) (m1 fNeg (mC (.int 1)))) (mC (.int 1))) l1__law_counts 1000 [some (.z, .int (n : Int)), some (.z, .int (f : Int)), some (.l .n, .lst [.int (n : Int)])]) := by
      refine while_run Z I 1000 n _ (by omega) ⟨[], n, rfl, by omega, by omega, by simp, by simp, rfl⟩ ?_
      rintro m e ⟨pre, last, rfl, h1, h3, h4, h5, rfl⟩
      refine ⟨decide (1 < m), ?_, ?_, ?_⟩
      · by_cases g : 1 < (m : Int)
        · have g2 : (decide (1 < m)) = true := by simp; omega
          simp (disch := first | omega | (simp only [List.length_cons, List.length_nil, List.length_map, List.length_set, List.length_append, List.length_replicate, Nat.zero_add, Nat.reduceAdd] <;> omega) | (simp only [noL, noLs, Bool.and_true, Bool.true_and, noLs_ints]; done) | (refine id ?_; with_unfolding_all rfl)) only [runF_ap, ini, List.replicate_succ, List.replicate_zero, List.length_cons, List.length_nil, List.length_set, Nat.reduceAdd, Nat.reduceSub, Nat.reduceLT, Nat.reduceLeDiff, Nat.zero_add, mIf_ap, brS_t, brS_f, brS_e, mSeq_ap, bindS_n, bindS_r, bindS_b, bindS_c, bindS_e, onE_v, onE_e, asgK_ok, mAsg_t, mAsg_f, mRet_ap, mExpr_t, mExpr_f, mRaise_ap, mNext_ap, mRetN_ap, mPass, mBrk, mCont, mRetV_ap, retK_s, mVar_ap, varK_s, mC_ap, bindE_v, bindE_e, m2_ap, b2_vv, b2_ve, b2_e, m1_ap, mN_ap, nK_i, nK_b, nK_n, nK_s, nK_e, nK_t, noL, noLs, Bool.and_true, Bool.true_and, mLN_ap, lnK_ok, mCons_ap, consA_v, consA_e, consA_ve, mNil_ap, mCall_ap, callK_v, callK_e, mTup_ap, mLst_ap, tupK_v, lstK_v, tupK_e, lstK_e, mAnd_ap, mOr_ap, andK_t, andK_f, orK_t, orK_f, andK_e, orK_e, mIfE_ap, ifK_t, ifK_f, mChain_ap, ch2_v, chK_t, chK_f, mSl_ap, slK_ii, slK_ni, slK_in, slK_nn, mInt_ap, intK_i, fAdd_i, fSub_i, fMul_l, fMul_r, fMod_i, fDiv_i, fPow_18, fPow_20, fPow_3, fShl_i, Int.one_mul, fNeg_i, fLt_t, fLt_f, fLe_t, fLe_f, fGt_t, fGt_f, fGe_t, fGe_f, fEq_t, fEq_f, fNe_t, fNe_f, fNot_b, Bool.not_true, Bool.not_false, fIsi_ap, isAdr_i, isAdr_b, isAdr_s, isAdr_l, isAdr_t, isAdr_n, isAdr_c, isK_inti, isK_intb, isK_ints, isK_intl, isK_intt, isK_intn, isK_booli, isK_boolb, isK_bools, isK_booll, isK_boolt, isK_booln, isK_stri, isK_strb, isK_strs, isK_strl, isK_strt, isK_strn, isK_listi, isK_listb, isK_lists, isK_listl, isK_listt, isK_listn, isK_tuplei, isK_tupleb, isK_tuples, isK_tuplel, isK_tuplet, isK_tuplen, isK_listscr, fMax_i, fMin_i, fIsN_n, fIsN_i, fIdx_0, fIdx_1, fIdx_2, fIdx_3, fIdx_4, fIdx_5, fIdx_6, fIdxT_0, fIdxT_1, fIdxT_2, fIdxT_3, fLen_l, fLen_t, fLen_s, fSl_l, fSl_s, fItL_l, fItL_s, fItT_t, mIter_ap, itK_v, mIt1_ap, it1K_v, fRng_1, fRng_2, mFor_t, mFor_f, forK_v, mLc_ap, lcK_v, lcK_e, mAppMv_ap, app1_l, mParN_ap, parK_v, mAsgTz_f, mAsgTz_t, tzK_2, mMut_ap, mutK_0, mut0_appS, mut0_appLa, mut0_ext, mut0_clr, mut0_clrLa, mAsgT_f, mAsgT_t, tK_2, vw_t, vw_f, mFrz_ap, frz_ap, frzK_s, frzK_n, finR_r, finR_nn, finR_nz, List.nil_append, finR_e, Fr.fz, look, dOf_nil, dOf_c, hOf_nil, hOf_c, hid, Option.map_some, Option.map_none, List.set_cons_zero, List.set_cons_succ, List.getElem?_cons_zero, List.getElem?_cons_succ, List.length_map, wipeE, mPut_ap, putK_0, put0_l, put0_la, Int.toNat_natCast, mutK_p, mutI_s, mutP_s, mutQ_app, mutQ_clr, putK_p, putI_s, putP_s, putQ_ok, mSnoc_k, snocK_0, snocK_1, snocK_2, intsD_n, intsD_c, consO_s, dig_n, dig_l, dig_t, digK_s, digF_n, digF_l, digF_t, digFK_s, atI_0, atI_1, atI_2, atI_m1, bury_n, bury_t0, bury_t1, bury_t2, bury_l0, bury_l1, fIdx_last, g2]
        · have g2 : (decide (1 < m)) = false := by simp; omega
          simp (disch := first | omega | (simp only [List.length_cons, List.length_nil, List.length_map, List.length_set, List.length_append, List.length_replicate, Nat.zero_add, Nat.reduceAdd] <;> omega) | (simp only [noL, noLs, Bool.and_true, Bool.true_and, noLs_ints]; done) | (refine id ?_; with_unfolding_all rfl)) only [runF_ap, ini, List.replicate_succ, List.replicate_zero, List.length_cons, List.length_nil, List.length_set, Nat.reduceAdd, Nat.reduceSub, Nat.reduceLT, Nat.reduceLeDiff, Nat.zero_add, mIf_ap, brS_t, brS_f, brS_e, mSeq_ap, bindS_n, bindS_r, bindS_b, bindS_c, bindS_e, onE_v, onE_e, asgK_ok, mAsg_t, mAsg_f, mRet_ap, mExpr_t, mExpr_f, mRaise_ap, mNext_ap, mRetN_ap, mPass, mBrk, mCont, mRetV_ap, retK_s, mVar_ap, varK_s, mC_ap, bindE_v, bindE_e, m2_ap, b2_vv, b2_ve, b2_e, m1_ap, mN_ap, nK_i, nK_b, nK_n, nK_s, nK_e, nK_t, noL, noLs, Bool.and_true, Bool.true_and, mLN_ap, lnK_ok, mCons_ap, consA_v, consA_e, consA_ve, mNil_ap, mCall_ap, callK_v, callK_e, mTup_ap, mLst_ap, tupK_v, lstK_v, tupK_e, lstK_e, mAnd_ap, mOr_ap, andK_t, andK_f, orK_t, orK_f, andK_e, orK_e, mIfE_ap, ifK_t, ifK_f, mChain_ap, ch2_v, chK_t, chK_f, mSl_ap, slK_ii, slK_ni, slK_in, slK_nn, mInt_ap, intK_i, fAdd_i, fSub_i, fMul_l, fMul_r, fMod_i, fDiv_i, fPow_18, fPow_20, fPow_3, fShl_i, Int.one_mul, fNeg_i, fLt_t, fLt_f, fLe_t, fLe_f, fGt_t, fGt_f, fGe_t, fGe_f, fEq_t, fEq_f, fNe_t, fNe_f, fNot_b, Bool.not_true, Bool.not_false, fIsi_ap, isAdr_i, isAdr_b, isAdr_s, isAdr_l, isAdr_t, isAdr_n, isAdr_c, isK_inti, isK_intb, isK_ints, isK_intl, isK_intt, isK_intn, isK_booli, isK_boolb, isK_bools, isK_booll, isK_boolt, isK_booln, isK_stri, isK_strb, isK_strs, isK_strl, isK_strt, isK_strn, isK_listi, isK_listb, isK_lists, isK_listl, isK_listt, isK_listn, isK_tuplei, isK_tupleb, isK_tuples, isK_tuplel, isK_tuplet, isK_tuplen, isK_listscr, fMax_i, fMin_i, fIsN_n, fIsN_i, fIdx_0, fIdx_1, fIdx_2, fIdx_3, fIdx_4, fIdx_5, fIdx_6, fIdxT_0, fIdxT_1, fIdxT_2, fIdxT_3, fLen_l, fLen_t, fLen_s, fSl_l, fSl_s, fItL_l, fItL_s, fItT_t, mIter_ap, itK_v, mIt1_ap, it1K_v, fRng_1, fRng_2, mFor_t, mFor_f, forK_v, mLc_ap, lcK_v, lcK_e, mAppMv_ap, app1_l, mParN_ap, parK_v, mAsgTz_f, mAsgTz_t, tzK_2, mMut_ap, mutK_0, mut0_appS, mut0_appLa, mut0_ext, mut0_clr, mut0_clrLa, mAsgT_f, mAsgT_t, tK_2, vw_t, vw_f, mFrz_ap, frz_ap, frzK_s, frzK_n, finR_r, finR_nn, finR_nz, List.nil_append, finR_e, Fr.fz, look, dOf_nil, dOf_c, hOf_nil, hOf_c, hid, Option.map_some, Option.map_none, List.set_cons_zero, List.set_cons_succ, List.getElem?_cons_zero, List.getElem?_cons_succ, List.length_map, wipeE, mPut_ap, putK_0, put0_l, put0_la, Int.toNat_natCast, mutK_p, mutI_s, mutP_s, mutQ_app, mutQ_clr, putK_p, putI_s, putP_s, putQ_ok, mSnoc_k, snocK_0, snocK_1, snocK_2, intsD_n, intsD_c, consO_s, dig_n, dig_l, dig_t, digK_s, digF_n, digF_l, digF_t, digFK_s, atI_0, atI_1, atI_2, atI_m1, bury_n, bury_t0, bury_t1, bury_t2, bury_l0, bury_l1, fIdx_last, g2]
      · intro g
        have e1 : m = 1 := by simp at g; omega
        subst e1
        show OS.next _ = _
        rw [← h5]
        simp [lvF]
      · intro g
        have g : 1 < m := by simpa using g
        have hl : ((pre.map fun (c : Nat) => D.int (c : Int)) ++ [D.int (m : Int)]).length < 100000 := by simp; omega
        have eu : (((m : Int) + (f : Int) - 1) / (f : Int)) = ((up f m : Nat) : Int) := by
          unfold up
          rw [Int.natCast_ediv]
          congr 1
          omega
        have hul := up_lt h2 (show 2 ≤ m by omega)
        have hup := @up_pos f m (by omega) (by omega)
        unfold l1__law_counts
        simp (disch := first | omega | (simp only [List.length_cons, List.length_nil, List.length_map, List.length_set, List.length_append, List.length_replicate, Nat.zero_add, Nat.reduceAdd] <;> omega) | (simp only [noL, noLs, Bool.and_true, Bool.true_and, noLs_ints]; done) | (refine id ?_; with_unfolding_all rfl)) only [runF_ap, ini, List.replicate_succ, List.replicate_zero, List.length_cons, List.length_nil, List.length_set, Nat.reduceAdd, Nat.reduceSub, Nat.reduceLT, Nat.reduceLeDiff, Nat.zero_add, mIf_ap, brS_t, brS_f, brS_e, mSeq_ap, bindS_n, bindS_r, bindS_b, bindS_c, bindS_e, onE_v, onE_e, asgK_ok, mAsg_t, mAsg_f, mRet_ap, mExpr_t, mExpr_f, mRaise_ap, mNext_ap, mRetN_ap, mPass, mBrk, mCont, mRetV_ap, retK_s, mVar_ap, varK_s, mC_ap, bindE_v, bindE_e, m2_ap, b2_vv, b2_ve, b2_e, m1_ap, mN_ap, nK_i, nK_b, nK_n, nK_s, nK_e, nK_t, noL, noLs, Bool.and_true, Bool.true_and, mLN_ap, lnK_ok, mCons_ap, consA_v, consA_e, consA_ve, mNil_ap, mCall_ap, callK_v, callK_e, mTup_ap, mLst_ap, tupK_v, lstK_v, tupK_e, lstK_e, mAnd_ap, mOr_ap, andK_t, andK_f, orK_t, orK_f, andK_e, orK_e, mIfE_ap, ifK_t, ifK_f, mChain_ap, ch2_v, chK_t, chK_f, mSl_ap, slK_ii, slK_ni, slK_in, slK_nn, mInt_ap, intK_i, fAdd_i, fSub_i, fMul_l, fMul_r, fMod_i, fDiv_i, fPow_18, fPow_20, fPow_3, fShl_i, Int.one_mul, fNeg_i, fLt_t, fLt_f, fLe_t, fLe_f, fGt_t, fGt_f, fGe_t, fGe_f, fEq_t, fEq_f, fNe_t, fNe_f, fNot_b, Bool.not_true, Bool.not_false, fIsi_ap, isAdr_i, isAdr_b, isAdr_s, isAdr_l, isAdr_t, isAdr_n, isAdr_c, isK_inti, isK_intb, isK_ints, isK_intl, isK_intt, isK_intn, isK_booli, isK_boolb, isK_bools, isK_booll, isK_boolt, isK_booln, isK_stri, isK_strb, isK_strs, isK_strl, isK_strt, isK_strn, isK_listi, isK_listb, isK_lists, isK_listl, isK_listt, isK_listn, isK_tuplei, isK_tupleb, isK_tuples, isK_tuplel, isK_tuplet, isK_tuplen, isK_listscr, fMax_i, fMin_i, fIsN_n, fIsN_i, fIdx_0, fIdx_1, fIdx_2, fIdx_3, fIdx_4, fIdx_5, fIdx_6, fIdxT_0, fIdxT_1, fIdxT_2, fIdxT_3, fLen_l, fLen_t, fLen_s, fSl_l, fSl_s, fItL_l, fItL_s, fItT_t, mIter_ap, itK_v, mIt1_ap, it1K_v, fRng_1, fRng_2, mFor_t, mFor_f, forK_v, mLc_ap, lcK_v, lcK_e, mAppMv_ap, app1_l, mParN_ap, parK_v, mAsgTz_f, mAsgTz_t, tzK_2, mMut_ap, mutK_0, mut0_appS, mut0_appLa, mut0_ext, mut0_clr, mut0_clrLa, mAsgT_f, mAsgT_t, tK_2, vw_t, vw_f, mFrz_ap, frz_ap, frzK_s, frzK_n, finR_r, finR_nn, finR_nz, List.nil_append, finR_e, Fr.fz, look, dOf_nil, dOf_c, hOf_nil, hOf_c, hid, Option.map_some, Option.map_none, List.set_cons_zero, List.set_cons_succ, List.getElem?_cons_zero, List.getElem?_cons_succ, List.length_map, wipeE, mPut_ap, putK_0, put0_l, put0_la, Int.toNat_natCast, mutK_p, mutI_s, mutP_s, mutQ_app, mutQ_clr, putK_p, putI_s, putP_s, putQ_ok, mSnoc_k, snocK_0, snocK_1, snocK_2, intsD_n, intsD_c, consO_s, dig_n, dig_l, dig_t, digK_s, digF_n, digF_l, digF_t, digFK_s, atI_0, atI_1, atI_2, atI_m1, bury_n, bury_t0, bury_t1, bury_t2, bury_l0, bury_l1, fIdx_last, eu]
        refine ⟨up f m, hul, pre ++ [m], up f m, rfl, by omega, by omega, by simp; omega, ?_, by simp⟩
        rw [← h5]
        have e2 : lvF f m m = m :: lvF f (m - 1) (up f m) := by
          obtain ⟨k, rfl⟩ : ∃ k, m = k + 1 := ⟨m - 1, by omega⟩
          show lvF f (k + 1) (k + 1) = _
          rw [lvF, if_neg (by omega)]
          rfl
        rw [e2, lvF_more h2 (show up f m ≤ m - 1 by omega) (Nat.le_refl _)]
        simp
    have key : mWhile (m2 fGt (m2 fIdx (mVar 2) (m1 fNeg (mC (.int 1)))) (mC (.int 1))) l1__law_counts 1000 [some (.z, .int (n : Int)), some (.z, .int (f : Int)), some (.l .n, .lst [.int (n : Int)])] = _ := key
    have el : lv f n = lvF f n n := if_neg h0
    rw [el]
    unfold m__law_counts b__law_counts
    simp (disch := first | omega | (simp only [List.length_cons, List.length_nil, List.length_map, List.length_set, List.length_append, List.length_replicate, Nat.zero_add, Nat.reduceAdd] <;> omega) | (simp only [noL, noLs, Bool.and_true, Bool.true_and, noLs_ints]; done) | (refine id ?_; with_unfolding_all rfl)) only [runF_ap, ini, List.replicate_succ, List.replicate_zero, List.length_cons, List.length_nil, List.length_set, Nat.reduceAdd, Nat.reduceSub, Nat.reduceLT, Nat.reduceLeDiff, Nat.zero_add, mIf_ap, brS_t, brS_f, brS_e, mSeq_ap, bindS_n, bindS_r, bindS_b, bindS_c, bindS_e, onE_v, onE_e, asgK_ok, mAsg_t, mAsg_f, mRet_ap, mExpr_t, mExpr_f, mRaise_ap, mNext_ap, mRetN_ap, mPass, mBrk, mCont, mRetV_ap, retK_s, mVar_ap, varK_s, mC_ap, bindE_v, bindE_e, m2_ap, b2_vv, b2_ve, b2_e, m1_ap, mN_ap, nK_i, nK_b, nK_n, nK_s, nK_e, nK_t, noL, noLs, Bool.and_true, Bool.true_and, mLN_ap, lnK_ok, mCons_ap, consA_v, consA_e, consA_ve, mNil_ap, mCall_ap, callK_v, callK_e, mTup_ap, mLst_ap, tupK_v, lstK_v, tupK_e, lstK_e, mAnd_ap, mOr_ap, andK_t, andK_f, orK_t, orK_f, andK_e, orK_e, mIfE_ap, ifK_t, ifK_f, mChain_ap, ch2_v, chK_t, chK_f, mSl_ap, slK_ii, slK_ni, slK_in, slK_nn, mInt_ap, intK_i, fAdd_i, fSub_i, fMul_l, fMul_r, fMod_i, fDiv_i, fPow_18, fPow_20, fPow_3, fShl_i, Int.one_mul, fNeg_i, fLt_t, fLt_f, fLe_t, fLe_f, fGt_t, fGt_f, fGe_t, fGe_f, fEq_t, fEq_f, fNe_t, fNe_f, fNot_b, Bool.not_true, Bool.not_false, fIsi_ap, isAdr_i, isAdr_b, isAdr_s, isAdr_l, isAdr_t, isAdr_n, isAdr_c, isK_inti, isK_intb, isK_ints, isK_intl, isK_intt, isK_intn, isK_booli, isK_boolb, isK_bools, isK_booll, isK_boolt, isK_booln, isK_stri, isK_strb, isK_strs, isK_strl, isK_strt, isK_strn, isK_listi, isK_listb, isK_lists, isK_listl, isK_listt, isK_listn, isK_tuplei, isK_tupleb, isK_tuples, isK_tuplel, isK_tuplet, isK_tuplen, isK_listscr, fMax_i, fMin_i, fIsN_n, fIsN_i, fIdx_0, fIdx_1, fIdx_2, fIdx_3, fIdx_4, fIdx_5, fIdx_6, fIdxT_0, fIdxT_1, fIdxT_2, fIdxT_3, fLen_l, fLen_t, fLen_s, fSl_l, fSl_s, fItL_l, fItL_s, fItT_t, mIter_ap, itK_v, mIt1_ap, it1K_v, fRng_1, fRng_2, mFor_t, mFor_f, forK_v, mLc_ap, lcK_v, lcK_e, mAppMv_ap, app1_l, mParN_ap, parK_v, mAsgTz_f, mAsgTz_t, tzK_2, mMut_ap, mutK_0, mut0_appS, mut0_appLa, mut0_ext, mut0_clr, mut0_clrLa, mAsgT_f, mAsgT_t, tK_2, vw_t, vw_f, mFrz_ap, frz_ap, frzK_s, frzK_n, finR_r, finR_nn, finR_nz, List.nil_append, finR_e, Fr.fz, look, dOf_nil, dOf_c, hOf_nil, hOf_c, hid, Option.map_some, Option.map_none, List.set_cons_zero, List.set_cons_succ, List.getElem?_cons_zero, List.getElem?_cons_succ, List.length_map, wipeE, mPut_ap, putK_0, put0_l, put0_la, Int.toNat_natCast, mutK_p, mutI_s, mutP_s, mutQ_app, mutQ_clr, putK_p, putI_s, putP_s, putQ_ok, mSnoc_k, snocK_0, snocK_1, snocK_2, intsD_n, intsD_c, consO_s, dig_n, dig_l, dig_t, digK_s, digF_n, digF_l, digF_t, digFK_s, atI_0, atI_1, atI_2, atI_m1, bury_n, bury_t0, bury_t1, bury_t2, bury_l0, bury_l1, key]
theorem pow_b {f l : Nat} (h8 : f ≤ 8) (hl : l ≤ 20) : f ^ l ≤ 1152921504606846976 := by
  have h1 := Nat.pow_le_pow_left h8 l
  have h2 := Nat.pow_le_pow_right (show 0 < 8 by decide) hl
  omega
theorem reach_ok (n f l p : Nat) (hn : n ≤ 1000) (h2 : 2 ≤ f) (h8 : f ≤ 8) (hl : l ≤ 20) (hp : p ≤ 1000) : m__law_reach [.int (n : Int), .int (f : Int), .int (l : Int), .int (p : Int)] = .val (.tup [.int ((p * f ^ l : Nat) : Int), .int ((min n (p * f ^ l + f ^ l) : Nat) : Int)]) := by
  let I : Nat → Env → Prop := fun i e => ∃ k, e = [some (.z, .int (n : Int)), some (.z, .int (f : Int)), some (.z, .int (l : Int)), some (.z, .int (p : Int)), some (.n, .int ((f ^ i : Nat) : Int)), k]
  let Z : OS → Prop := fun o => ∃ k, o = .next [some (.z, .int (n : Int)), some (.z, .int (f : Int)), some (.z, .int (l : Int)), some (.z, .int (p : Int)), some (.n, .int ((f ^ l : Nat) : Int)), k]
  have key : Z (mLoop (.nm 5) l1__law_reach (rng 0 l) [some (.z, .int (n : Int)), some (.z, .int (f : Int)), some (.z, .int (l : Int)), some (.z, .int (p : Int)), some (.n, .int 1), none]) := by
    refine loop_rng Z I ⟨none, rfl⟩ ?_ ?_
    · rintro i hi e ⟨k, rfl⟩
      refine ⟨by simp, ?_⟩
      have := @pow_b f i h8 (by omega)
      have e2 : (((f ^ i : Nat) : Int) * (f : Int)) = ((f ^ (i + 1) : Nat) : Int) := by rw [Nat.pow_succ]; simp
      unfold l1__law_reach
      simp (disch := first | omega | (simp only [List.length_cons, List.length_nil, List.length_map, List.length_set, List.length_append, List.length_replicate, Nat.zero_add, Nat.reduceAdd] <;> omega) | (simp only [noL, noLs, Bool.and_true, Bool.true_and, noLs_ints]; done) | (refine id ?_; with_unfolding_all rfl)) only [runF_ap, ini, List.replicate_succ, List.replicate_zero, List.length_cons, List.length_nil, List.length_set, Nat.reduceAdd, Nat.reduceSub, Nat.reduceLT, Nat.reduceLeDiff, Nat.zero_add, mIf_ap, brS_t, brS_f, brS_e, mSeq_ap, bindS_n, bindS_r, bindS_b, bindS_c, bindS_e, onE_v, onE_e, asgK_ok, mAsg_t, mAsg_f, mRet_ap, mExpr_t, mExpr_f, mRaise_ap, mNext_ap, mRetN_ap, mPass, mBrk, mCont, mRetV_ap, retK_s, mVar_ap, varK_s, mC_ap, bindE_v, bindE_e, m2_ap, b2_vv, b2_ve, b2_e, m1_ap, mN_ap, nK_i, nK_b, nK_n, nK_s, nK_e, nK_t, noL, noLs, Bool.and_true, Bool.true_and, mLN_ap, lnK_ok, mCons_ap, consA_v, consA_e, consA_ve, mNil_ap, mCall_ap, callK_v, callK_e, mTup_ap, mLst_ap, tupK_v, lstK_v, tupK_e, lstK_e, mAnd_ap, mOr_ap, andK_t, andK_f, orK_t, orK_f, andK_e, orK_e, mIfE_ap, ifK_t, ifK_f, mChain_ap, ch2_v, chK_t, chK_f, mSl_ap, slK_ii, slK_ni, slK_in, slK_nn, mInt_ap, intK_i, fAdd_i, fSub_i, fMul_l, fMul_r, fMod_i, fDiv_i, fPow_18, fPow_20, fPow_3, fShl_i, Int.one_mul, fNeg_i, fLt_t, fLt_f, fLe_t, fLe_f, fGt_t, fGt_f, fGe_t, fGe_f, fEq_t, fEq_f, fNe_t, fNe_f, fNot_b, Bool.not_true, Bool.not_false, fIsi_ap, isAdr_i, isAdr_b, isAdr_s, isAdr_l, isAdr_t, isAdr_n, isAdr_c, isK_inti, isK_intb, isK_ints, isK_intl, isK_intt, isK_intn, isK_booli, isK_boolb, isK_bools, isK_booll, isK_boolt, isK_booln, isK_stri, isK_strb, isK_strs, isK_strl, isK_strt, isK_strn, isK_listi, isK_listb, isK_lists, isK_listl, isK_listt, isK_listn, isK_tuplei, isK_tupleb, isK_tuples, isK_tuplel, isK_tuplet, isK_tuplen, isK_listscr, fMax_i, fMin_i, fIsN_n, fIsN_i, fIdx_0, fIdx_1, fIdx_2, fIdx_3, fIdx_4, fIdx_5, fIdx_6, fIdxT_0, fIdxT_1, fIdxT_2, fIdxT_3, fLen_l, fLen_t, fLen_s, fSl_l, fSl_s, fItL_l, fItL_s, fItT_t, mIter_ap, itK_v, mIt1_ap, it1K_v, fRng_1, fRng_2, mFor_t, mFor_f, forK_v, mLc_ap, lcK_v, lcK_e, mAppMv_ap, app1_l, mParN_ap, parK_v, mAsgTz_f, mAsgTz_t, tzK_2, mMut_ap, mutK_0, mut0_appS, mut0_appLa, mut0_ext, mut0_clr, mut0_clrLa, mAsgT_f, mAsgT_t, tK_2, vw_t, vw_f, mFrz_ap, frz_ap, frzK_s, frzK_n, finR_r, finR_nn, finR_nz, List.nil_append, finR_e, Fr.fz, look, dOf_nil, dOf_c, hOf_nil, hOf_c, hid, Option.map_some, Option.map_none, List.set_cons_zero, List.set_cons_succ, List.getElem?_cons_zero, List.getElem?_cons_succ, List.length_map, wipeE, mPut_ap, putK_0, put0_l, put0_la, Int.toNat_natCast, mutK_p, mutI_s, mutP_s, mutQ_app, mutQ_clr, putK_p, putI_s, putP_s, putQ_ok, mSnoc_k, snocK_0, snocK_1, snocK_2, intsD_n, intsD_c, consO_s, dig_n, dig_l, dig_t, digK_s, digF_n, digF_l, digF_t, digFK_s, atI_0, atI_1, atI_2, atI_m1, bury_n, bury_t0, bury_t1, bury_t2, bury_l0, bury_l1, e2]
      exact ⟨_, rfl⟩
    · rintro e ⟨k, rfl⟩
      exact ⟨k, rfl⟩
  obtain ⟨k, hk⟩ := key
  have := @pow_b f l h8 hl
  have e1 : ((p : Int) * ((f ^ l : Nat) : Int)) = ((p * f ^ l : Nat) : Int) := by simp
  have e3 : ((p * f ^ l : Nat) : Int) + ((f ^ l : Nat) : Int) = ((p * f ^ l + f ^ l : Nat) : Int) := by simp
  have e2 : min (n : Int) ((p * f ^ l + f ^ l : Nat) : Int) = ((min n (p * f ^ l + f ^ l) : Nat) : Int) := by omega
  have hL : ((l : Nat) : Int).toNat = l := by omega
  unfold m__law_reach b__law_reach
  simp (disch := first | omega | (simp only [List.length_cons, List.length_nil, List.length_map, List.length_set, List.length_append, List.length_replicate, Nat.zero_add, Nat.reduceAdd] <;> omega) | (simp only [noL, noLs, Bool.and_true, Bool.true_and, noLs_ints]; done) | (refine id ?_; with_unfolding_all rfl)) only [runF_ap, ini, List.replicate_succ, List.replicate_zero, List.length_cons, List.length_nil, List.length_set, Nat.reduceAdd, Nat.reduceSub, Nat.reduceLT, Nat.reduceLeDiff, Nat.zero_add, mIf_ap, brS_t, brS_f, brS_e, mSeq_ap, bindS_n, bindS_r, bindS_b, bindS_c, bindS_e, onE_v, onE_e, asgK_ok, mAsg_t, mAsg_f, mRet_ap, mExpr_t, mExpr_f, mRaise_ap, mNext_ap, mRetN_ap, mPass, mBrk, mCont, mRetV_ap, retK_s, mVar_ap, varK_s, mC_ap, bindE_v, bindE_e, m2_ap, b2_vv, b2_ve, b2_e, m1_ap, mN_ap, nK_i, nK_b, nK_n, nK_s, nK_e, nK_t, noL, noLs, Bool.and_true, Bool.true_and, mLN_ap, lnK_ok, mCons_ap, consA_v, consA_e, consA_ve, mNil_ap, mCall_ap, callK_v, callK_e, mTup_ap, mLst_ap, tupK_v, lstK_v, tupK_e, lstK_e, mAnd_ap, mOr_ap, andK_t, andK_f, orK_t, orK_f, andK_e, orK_e, mIfE_ap, ifK_t, ifK_f, mChain_ap, ch2_v, chK_t, chK_f, mSl_ap, slK_ii, slK_ni, slK_in, slK_nn, mInt_ap, intK_i, fAdd_i, fSub_i, fMul_l, fMul_r, fMod_i, fDiv_i, fPow_18, fPow_20, fPow_3, fShl_i, Int.one_mul, fNeg_i, fLt_t, fLt_f, fLe_t, fLe_f, fGt_t, fGt_f, fGe_t, fGe_f, fEq_t, fEq_f, fNe_t, fNe_f, fNot_b, Bool.not_true, Bool.not_false, fIsi_ap, isAdr_i, isAdr_b, isAdr_s, isAdr_l, isAdr_t, isAdr_n, isAdr_c, isK_inti, isK_intb, isK_ints, isK_intl, isK_intt, isK_intn, isK_booli, isK_boolb, isK_bools, isK_booll, isK_boolt, isK_booln, isK_stri, isK_strb, isK_strs, isK_strl, isK_strt, isK_strn, isK_listi, isK_listb, isK_lists, isK_listl, isK_listt, isK_listn, isK_tuplei, isK_tupleb, isK_tuples, isK_tuplel, isK_tuplet, isK_tuplen, isK_listscr, fMax_i, fMin_i, fIsN_n, fIsN_i, fIdx_0, fIdx_1, fIdx_2, fIdx_3, fIdx_4, fIdx_5, fIdx_6, fIdxT_0, fIdxT_1, fIdxT_2, fIdxT_3, fLen_l, fLen_t, fLen_s, fSl_l, fSl_s, fItL_l, fItL_s, fItT_t, mIter_ap, itK_v, mIt1_ap, it1K_v, fRng_1, fRng_2, mFor_t, mFor_f, forK_v, mLc_ap, lcK_v, lcK_e, mAppMv_ap, app1_l, mParN_ap, parK_v, mAsgTz_f, mAsgTz_t, tzK_2, mMut_ap, mutK_0, mut0_appS, mut0_appLa, mut0_ext, mut0_clr, mut0_clrLa, mAsgT_f, mAsgT_t, tK_2, vw_t, vw_f, mFrz_ap, frz_ap, frzK_s, frzK_n, finR_r, finR_nn, finR_nz, List.nil_append, finR_e, Fr.fz, look, dOf_nil, dOf_c, hOf_nil, hOf_c, hid, Option.map_some, Option.map_none, List.set_cons_zero, List.set_cons_succ, List.getElem?_cons_zero, List.getElem?_cons_succ, List.length_map, wipeE, mPut_ap, putK_0, put0_l, put0_la, Int.toNat_natCast, mutK_p, mutI_s, mutP_s, mutQ_app, mutQ_clr, putK_p, putI_s, putP_s, putQ_ok, mSnoc_k, snocK_0, snocK_1, snocK_2, intsD_n, intsD_c, consO_s, dig_n, dig_l, dig_t, digK_s, digF_n, digF_l, digF_t, digFK_s, atI_0, atI_1, atI_2, atI_m1, bury_n, bury_t0, bury_t1, bury_t2, bury_l0, bury_l1, hL, hk, e1, e2, e3]

def dL (ns : List Int) : D := .lst (ns.map .int)
def dT (T : List (List Int)) : D := .lst (T.map dL)
def rowOf (f : Nat) (rs : List Int) (l : Nat) : List Int := (List.range (cl f l rs.length)).map fun p => maxI ((rs.drop (p * f ^ l)).take (f ^ l))
def treeOf (f : Nat) (rs : List Int) : List (List Int) := (List.range (lv f rs.length).length).map fun l => rowOf f rs l
theorem place_lt {f l n p : Nat} (hf : 0 < f) (h : p < cl f l n) : p * f ^ l < n := by
  rcases Nat.lt_or_ge (p * f ^ l) n with g | g
  · exact g
  · have := (cl_le (l := l) hf).mpr g
    omega
theorem cut_b {α : Type} (rs : List α) (b e : Nat) (hb : b ≤ rs.length) (he : e ≤ rs.length) : cutG rs (some (b : Int)) (some (e : Int)) = (rs.drop b).take (e - b) := by
  unfold cutG
  rw [HT.sIx_nat, HT.sIx_nat, Nat.min_eq_left hb, Nat.min_eq_left he]
theorem cut_w {α : Type} (rs : List α) (b w : Nat) (hb : b ≤ rs.length) : cutG rs (some (b : Int)) (some ((min rs.length (b + w) : Nat) : Int)) = (rs.drop b).take w := by
  rw [cut_b rs b _ hb (Nat.min_le_left _ _)]
  rcases Nat.le_total (b + w) rs.length with h | h
  · rw [Nat.min_eq_right h]
    congr 1
    omega
  · rw [Nat.min_eq_left h, List.take_of_length_le (by simp), List.take_of_length_le (by simp; omega)]
theorem rowOf_0 {f : Nat} {rs : List Int} : rowOf f rs 0 = rs := by
  unfold rowOf
  rw [cl_0]
  apply List.ext_getElem
  · simp
  · intro i h1 h2
    simp only [List.getElem_map, List.getElem_range, Nat.pow_zero, Nat.mul_one]
    rw [List.drop_eq_getElem_cons h2, List.take_succ_cons, List.take_zero]
    rfl
theorem rowOf_len {f l : Nat} {rs : List Int} : (rowOf f rs l).length = cl f l rs.length := by simp [rowOf]
theorem treeOf_len {f : Nat} {rs : List Int} : (treeOf f rs).length = (lv f rs.length).length := by simp [treeOf]
theorem treeOf_get {f l : Nat} {rs : List Int} (h : l < (treeOf f rs).length) : (treeOf f rs)[l] = rowOf f rs l := by simp [treeOf]
theorem treeOf_nil {f : Nat} : treeOf f [] = [] := by simp [treeOf, lv]
theorem treeOf_ne {f : Nat} {rs : List Int} (h : 0 < rs.length) : ∃ T, treeOf f rs = rs :: T := by
  have h1 := @lv_ne f rs.length h
  obtain ⟨k, hk⟩ : ∃ k, (lv f rs.length).length = k + 1 := ⟨_, (Nat.succ_pred_eq_of_pos h1).symm⟩
  refine ⟨(List.range k).map fun l => rowOf f rs (l + 1), ?_⟩
  unfold treeOf
  rw [hk, List.range_succ_eq_map, List.map_cons, rowOf_0, List.map_map]
  rfl
theorem noL_dL {ns : List Int} : noL (dL ns) = false := rfl
theorem okP_dL {k : Nat} {ns : List Int} : okP (k + 1) (dL ns) = true := okP_ints
theorem okPs_dLs {k : Nat} : ∀ {T : List (List Int)}, okPs (k + 1) (T.map dL) = true
  | [] => by rw [List.map_nil, okPs]
  | t :: T => by rw [List.map_cons, okPs, okP_dL, okPs_dLs]; rfl
theorem okP_dT {k : Nat} {T : List (List Int)} : okP (k + 2) (dT T) = true := by
  unfold dT
  rw [okP]
  exact okPs_dLs

/-! ### told above: the next level -/
theorem up_add {f n : Nat} (hf : 0 < f) (hn : 0 < n) : up f n = (n - 1) / f + 1 := by
  unfold up
  rw [show n + f - 1 = (n - 1) + f by omega, Nat.add_div_right _ hf]
theorem rangeSize_up {n f : Nat} (h2 : 2 ≤ f) : PySem.Builtin.Range.rangeSize 0 (n : Int) (f : Int) = ((up f n : Nat) : Int) := by
  unfold PySem.Builtin.Range.rangeSize
  rw [if_pos (by omega)]
  by_cases h : 0 < n
  · rw [if_pos (by omega), up_add (by omega) h]
    have e : ((n : Int) - 0 - 1) = (((n - 1 : Nat)) : Int) := by omega
    rw [e]
    simp
  · have : n = 0 := by omega
    subst this
    rw [if_neg (by omega)]
    have : up f 0 = 0 := by
      unfold up
      exact Nat.div_eq_of_lt (by omega)
    rw [this]
    rfl
theorem up_self {f n : Nat} (hf : 0 < f) : up f n ≤ n := (up_le hf).mpr (Nat.le_mul_of_pos_right n hf)
theorem rs3 {n f : Nat} (hn : n ≤ 1000000) (h2 : 2 ≤ f) (h8 : f ≤ 1000) : fRng3 [.int 0, .int (n : Int), .int (f : Int)] = .items ((List.range (up f n)).map fun (i : Nat) => D.int (0 + (i : Int) * (f : Int))) := by
  have e := @rangeSize_up n f h2
  have hu := @up_self f n (by omega)
  have sm : PySem.Builtin.Range.small 0 (n : Int) (f : Int) = true := by
    unfold PySem.Builtin.Range.small
    rw [e]
    simp only [PySem.Builtin.Range.rangeFitsLong, Bool.and_eq_true, Bool.or_eq_true, decide_eq_true_eq, beq_iff_eq, show (f : Int) > 0 by omega, if_true]
    omega
  unfold fRng3
  dsimp only
  rw [e, if_pos ⟨by omega, by omega, sm, by omega⟩, Int.toNat_natCast]
  rfl
def ups (f : Nat) (xs : List Int) : List Int := (List.range (up f xs.length)).map fun k => maxI ((xs.drop (k * f)).take f)
theorem maxI_eq {xs : List Int} {m : Int} (h : m ∈ xs) (hm : ∀ y ∈ xs, y ≤ m) : maxI xs = m := by
  have hs := maxI_spec (List.length_pos_iff.mpr (List.ne_nil_of_mem h))
  have h1 := hm _ hs.1
  have h2 := hs.2 _ h
  omega
theorem mem_cut {xs : List Int} {b w : Nat} {y : Int} : y ∈ (xs.drop b).take w ↔ ∃ i, b ≤ i ∧ i < b + w ∧ xs[i]? = some y := by
  rw [List.mem_iff_getElem?]
  constructor
  · rintro ⟨i, hi⟩
    rw [List.getElem?_take] at hi
    split at hi
    · rw [List.getElem?_drop] at hi
      exact ⟨b + i, by omega, by omega, hi⟩
    · cases hi
  · rintro ⟨i, h1, h2, h3⟩
    refine ⟨i - b, ?_⟩
    rw [List.getElem?_take, if_pos (by omega), List.getElem?_drop, show b + (i - b) = i by omega]
    exact h3
theorem rowOf_get {f l i : Nat} {rs : List Int} {y : Int} : (rowOf f rs l)[i]? = some y ↔ i < cl f l rs.length ∧ maxI ((rs.drop (i * f ^ l)).take (f ^ l)) = y := by
  unfold rowOf
  rw [List.getElem?_map]
  by_cases h : i < cl f l rs.length
  · rw [List.getElem?_range h]
    simp [h]
  · rw [List.getElem?_eq_none (by simp; omega)]
    simp [h]
/-- each number of a level is the greatest of those beneath it -/
theorem rowOf_succ {f l : Nat} {rs : List Int} (hf : 0 < f) : ups f (rowOf f rs l) = rowOf f rs (l + 1) := by
  unfold ups
  rw [rowOf_len, up_cl hf]
  conv => rhs; unfold rowOf
  refine List.map_congr_left fun k hk => ?_
  have hk := List.mem_range.mp hk
  have hw := Nat.pow_pos (n := l) hf
  have e1 : k * f ^ (l + 1) = (k * f) * f ^ l := by rw [Nat.pow_succ, Nat.mul_assoc, Nat.mul_comm f]
  have e2 : f ^ (l + 1) = f * f ^ l := by rw [Nat.pow_succ, Nat.mul_comm]
  rw [e1, e2]
  have hkf : k * f < cl f l rs.length := by
    rw [← up_cl hf] at hk
    rcases Nat.lt_or_ge (k * f) (cl f l rs.length) with g | g
    · exact g
    · have := (up_le (n := cl f l rs.length) (k := k) hf).mpr g
      omega
  have hne : 0 < (((rowOf f rs l).drop (k * f)).take f).length := by
    rw [List.length_take, List.length_drop, rowOf_len]
    omega
  obtain ⟨s1, s2⟩ := maxI_spec hne
  generalize maxI (((rowOf f rs l).drop (k * f)).take f) = m at s1 s2
  refine (maxI_eq ?_ ?_).symm
  · obtain ⟨j, j1, j2, j3⟩ := mem_cut.mp s1
    obtain ⟨hj, hm⟩ := rowOf_get.mp j3
    have hp := place_lt hf hj
    have hne2 : 0 < ((rs.drop (j * f ^ l)).take (f ^ l)).length := by
      rw [List.length_take, List.length_drop]
      omega
    obtain ⟨t1, _⟩ := maxI_spec hne2
    rw [hm] at t1
    obtain ⟨i, i1, i2, i3⟩ := mem_cut.mp t1
    have g1 := Nat.mul_le_mul_right (f ^ l) j1
    have g2 : (j + 1) * f ^ l ≤ (k * f + f) * f ^ l := Nat.mul_le_mul_right (f ^ l) j2
    rw [Nat.add_mul, Nat.one_mul] at g2
    rw [Nat.add_mul] at g2
    exact mem_cut.mpr ⟨i, by omega, by omega, i3⟩
  · intro y hy
    obtain ⟨i, i1, i2, i3⟩ := mem_cut.mp hy
    have hil := (List.getElem?_eq_some_iff.mp i3).1
    have hd := Nat.div_add_mod i (f ^ l)
    have hm := Nat.mod_lt i hw
    rw [Nat.mul_comm] at hd
    generalize i % f ^ l = r at hd hm
    have hj1 : k * f ≤ i / f ^ l := (Nat.le_div_iff_mul_le hw).mpr i1
    have hj2 : i / f ^ l < k * f + f := (Nat.div_lt_iff_lt_mul hw).mpr (by rw [Nat.add_mul]; exact i2)
    have hc : i / f ^ l < cl f l rs.length := by
      rcases Nat.lt_or_ge (i / f ^ l) (cl f l rs.length) with g | g
      · exact g
      · have := (cl_le hf).mp g
        omega
    have hrow := (rowOf_get (f := f) (l := l) (rs := rs)).mpr ⟨hc, rfl⟩
    have h1 := s2 _ (mem_cut.mpr ⟨_, hj1, hj2, hrow⟩)
    have hin : y ∈ (rs.drop (i / f ^ l * f ^ l)).take (f ^ l) := mem_cut.mpr ⟨i, by omega, by omega, i3⟩
    have h2 := (maxI_spec (List.length_pos_iff.mpr (List.ne_nil_of_mem hin))).2 _ hin
    omega
theorem lvF_last {f : Nat} (hf : 2 ≤ f) : ∀ {k n : Nat}, n ≤ k → cl f ((lvF f k n).length - 1) n ≤ 1
  | 0, n, h => by
    have : n = 0 := by omega
    subst this
    simp [lvF, cl_0]
  | k + 1, n, h => by
    unfold lvF
    split
    · rename_i g
      simp only [List.length_singleton, Nat.sub_self, cl_0]
      exact g
    · rename_i g
      have := @lvF_last f hf k (up f n) (by have := up_lt hf (show 2 ≤ n by omega); omega)
      have e1 : cl f ((lvF f k (up f n)).length - 1) (up f n) = cl f ((lvF f k (up f n)).length - 1 + 1) n := by
        have h : ∀ q, cl f ((lvF f k (up f n)).length - 1) (up f n) ≤ q ↔ cl f ((lvF f k (up f n)).length - 1 + 1) n ≤ q := fun q => by
          rw [cl_le (by omega), up_le (by omega), cl_le (by omega), Nat.pow_succ, Nat.mul_assoc]
        exact Nat.le_antisymm ((h _).mpr (Nat.le_refl _)) ((h _).mp (Nat.le_refl _))
      rw [e1] at this
      have hp : 0 < (lvF f k (up f n)).length := by
        cases k with
        | zero => simp [lvF]
        | succ k => unfold lvF; split <;> simp
      rw [List.length_cons, show (lvF f k (up f n)).length + 1 - 1 = (lvF f k (up f n)).length - 1 + 1 by omega]
      exact this
theorem lv_last {f n : Nat} (hf : 2 ≤ f) (hn : 0 < n) : cl f ((lv f n).length - 1) n ≤ 1 := by
  unfold lv
  rw [if_neg (by omega)]
  exact lvF_last hf (Nat.le_refl _)

/-! ### rows of truths -/
def bL (bs : List Bool) : D := .lst (bs.map .bl)
theorem noLs_bls : ∀ bs : List Bool, noLs (bs.map D.bl) = true
  | [] => rfl
  | b :: r => by rw [List.map_cons, noLs, noLs_bls r]; rfl
theorem okPs_bls {k : Nat} : ∀ bs : List Bool, okPs k (bs.map D.bl) = true
  | [] => by rw [List.map_nil, okPs]
  | b :: r => by rw [List.map_cons, okPs, okPs_bls r]; cases k <;> rfl
theorem okP_bL {k : Nat} {bs : List Bool} : okP (k + 1) (bL bs) = true := by rw [bL, okP]; exact okPs_bls bs
theorem empties_ok (ns : List Int) (p : Int) (m : Nat) (h0 : 0 ≤ p) (h1 : p < 10000) (hm : m ≤ 200) : ∃ bs, m__law_empties [.scr ns, .int p, .int (m : Int)] = .val (bL bs) ∧ bs.length ≤ m := by
  obtain ⟨xs, hr, hb⟩ := row_ok ns p ([(m : Int) + 1, 6, 2] ++ List.replicate m 12) h0 h1 (by simp; omega) (fun s hs => by
    simp only [List.mem_append, List.mem_cons, List.not_mem_nil, or_false, List.mem_replicate] at hs
    omega)
  have e1 : ([(m : Int) + 1, 6, 2] ++ List.replicate m 12).map D.int = [.int ((m : Int) + 1), .int 6, .int 2] ++ List.replicate m (.int 12) := by simp
  rw [e1] at hr
  obtain ⟨x0, _, rfl, a0, b0, hb⟩ := hb.c
  obtain ⟨x1, _, rfl, a1, b1, hb⟩ := hb.c
  obtain ⟨x2, t, rfl, a2, b2, hb⟩ := hb.c
  obtain ⟨htl, ht⟩ := hb.rep
  simp only [List.map] at hr
  let E : List Bool → Option (Fr × D) → Option (Fr × D) → Env := fun bs k h => [some (.z, .scr ns), some (.z, .int p), some (.z, .int (m : Int)), some (.l .n, .lst (.int x0 :: .int x1 :: .int x2 :: t.map .int)), some (.l .n, bL bs), k, h]
  let I : Nat → Env → Prop := fun i e => ∃ bs k h, e = E bs k h ∧ bs.length ≤ m ∧ (x1 ≤ 3 → bs.length ≤ i)
  let Z : OS → Prop := fun o => ∃ bs k h, o = .next (E bs k h) ∧ bs.length ≤ m
  have key : Z (mLoop (.nm 5) l2__law_empties (rng 0 x0.toNat) (E [] none none)) := by
    refine loop_rng Z I ⟨[], none, none, rfl, Nat.zero_le _, fun _ => Nat.zero_le _⟩ ?_ ?_
    · rintro i hi e ⟨bs, k, h, rfl, hl, hR⟩
      refine ⟨by simp [E], ?_⟩
      simp only [E, List.set_cons_zero, List.set_cons_succ]
      have hbl : (bs.map D.bl).length < 100000 := by rw [List.length_map]; omega
      have ei : fIdx (.lst (.int x0 :: .int x1 :: .int x2 :: t.map .int)) (.int (3 + (0 + (i : Int)))) = .val (.int (t.getD i 0)) := fIdx_get (by omega) (by
        have : (3 + (0 + (i : Int))).toNat = i + 3 := by omega
        have hi2 : i < t.length := by omega
        rw [this]
        simp [hi2])
      have hy := ht i (by omega)
      generalize t.getD i 0 = y at ei hy
      have app : ∀ b : Bool, bs.map D.bl ++ [D.bl b] = (bs ++ [b]).map D.bl := fun b => by rw [List.map_append]; rfl
      unfold l2__law_empties
      by_cases g : x1 = 3
      · have e2 : fEq (.int x2) (.int 0) = .val (.bl (decide (x2 = 0))) := fEq_i
        unfold bL
        simp (disch := first | omega | (simp only [List.length_cons, List.length_nil, List.length_map, List.length_set, List.length_append, List.length_replicate, Nat.zero_add, Nat.reduceAdd] <;> omega) | (simp only [noL, noLs, Bool.and_true, Bool.true_and, noLs_ints]; done) | (refine id ?_; with_unfolding_all rfl)) only [runF_ap, ini, List.replicate_succ, List.replicate_zero, List.length_cons, List.length_nil, List.length_set, Nat.reduceAdd, Nat.reduceSub, Nat.reduceLT, Nat.reduceLeDiff, Nat.zero_add, mIf_ap, brS_t, brS_f, brS_e, mSeq_ap, bindS_n, bindS_r, bindS_b, bindS_c, bindS_e, onE_v, onE_e, asgK_ok, mAsg_t, mAsg_f, mRet_ap, mExpr_t, mExpr_f, mRaise_ap, mNext_ap, mRetN_ap, mPass, mBrk, mCont, mRetV_ap, retK_s, mVar_ap, varK_s, mC_ap, bindE_v, bindE_e, m2_ap, b2_vv, b2_ve, b2_e, m1_ap, mN_ap, nK_i, nK_b, nK_n, nK_s, nK_e, nK_t, noL, noLs, Bool.and_true, Bool.true_and, mLN_ap, lnK_ok, mCons_ap, consA_v, consA_e, consA_ve, mNil_ap, mCall_ap, callK_v, callK_e, mTup_ap, mLst_ap, tupK_v, lstK_v, tupK_e, lstK_e, mAnd_ap, mOr_ap, andK_t, andK_f, orK_t, orK_f, andK_e, orK_e, mIfE_ap, ifK_t, ifK_f, mChain_ap, ch2_v, chK_t, chK_f, mSl_ap, slK_ii, slK_ni, slK_in, slK_nn, mInt_ap, intK_i, fAdd_i, fSub_i, fMul_l, fMul_r, fMod_i, fDiv_i, fPow_18, fPow_20, fPow_3, fShl_i, Int.one_mul, fNeg_i, fLt_t, fLt_f, fLe_t, fLe_f, fGt_t, fGt_f, fGe_t, fGe_f, fEq_t, fEq_f, fNe_t, fNe_f, fNot_b, Bool.not_true, Bool.not_false, fIsi_ap, isAdr_i, isAdr_b, isAdr_s, isAdr_l, isAdr_t, isAdr_n, isAdr_c, isK_inti, isK_intb, isK_ints, isK_intl, isK_intt, isK_intn, isK_booli, isK_boolb, isK_bools, isK_booll, isK_boolt, isK_booln, isK_stri, isK_strb, isK_strs, isK_strl, isK_strt, isK_strn, isK_listi, isK_listb, isK_lists, isK_listl, isK_listt, isK_listn, isK_tuplei, isK_tupleb, isK_tuples, isK_tuplel, isK_tuplet, isK_tuplen, isK_listscr, fMax_i, fMin_i, fIsN_n, fIsN_i, fIdx_0, fIdx_1, fIdx_2, fIdx_3, fIdx_4, fIdx_5, fIdx_6, fIdxT_0, fIdxT_1, fIdxT_2, fIdxT_3, fLen_l, fLen_t, fLen_s, fSl_l, fSl_s, fItL_l, fItL_s, fItT_t, mIter_ap, itK_v, mIt1_ap, it1K_v, fRng_1, fRng_2, mFor_t, mFor_f, forK_v, mLc_ap, lcK_v, lcK_e, mAppMv_ap, app1_l, mParN_ap, parK_v, mAsgTz_f, mAsgTz_t, tzK_2, mMut_ap, mutK_0, mut0_appS, mut0_appLa, mut0_ext, mut0_clr, mut0_clrLa, mAsgT_f, mAsgT_t, tK_2, vw_t, vw_f, mFrz_ap, frz_ap, frzK_s, frzK_n, finR_r, finR_nn, finR_nz, List.nil_append, finR_e, Fr.fz, look, dOf_nil, dOf_c, hOf_nil, hOf_c, hid, Option.map_some, Option.map_none, List.set_cons_zero, List.set_cons_succ, List.getElem?_cons_zero, List.getElem?_cons_succ, List.length_map, wipeE, mPut_ap, putK_0, put0_l, put0_la, Int.toNat_natCast, mutK_p, mutI_s, mutP_s, mutQ_app, mutQ_clr, putK_p, putI_s, putP_s, putQ_ok, mSnoc_k, snocK_0, snocK_1, snocK_2, intsD_n, intsD_c, consO_s, dig_n, dig_l, dig_t, digK_s, digF_n, digF_l, digF_t, digFK_s, atI_0, atI_1, atI_2, atI_m1, bury_n, bury_t0, bury_t1, bury_t2, bury_l0, bury_l1, ei, e2]
        exact ⟨bs ++ [decide (x2 = 0)], _, _, by rw [app]; rfl, by simp; omega, fun _ => by simp; omega⟩
      · by_cases g2 : 3 < x1
        · let E2 : List Bool → Int → Env := fun bs y => [some (.z, .scr ns), some (.z, .int p), some (.z, .int (m : Int)), some (.l .n, .lst (.int x0 :: .int x1 :: .int x2 :: t.map .int)), some (.l .n, bL bs), some (.z, .int (0 + (i : Int))), some (.n, .int y)]
          let Zkw : OS → Prop := fun o => ∃ bs y, o = .next (E2 bs y) ∧ bs.length ≤ m
          have kw : Zkw (mWhile (mAnd (m2 fLt (mCall fLen (mCons (mVar 4) mNil)) (m2 fIdx (mVar 3) (mC (.int 0)))) (m2 fGe (mVar 6) (mC (.int 0)))) l1__law_empties 1000 (E2 bs y)) := by
            refine while_run (fun o => ∃ bs y, o = .next (E2 bs y) ∧ bs.length ≤ m) (fun k e => ∃ bs y, k = m - bs.length ∧ bs.length ≤ m ∧ e = E2 bs y) 1000 (m - bs.length) _ (by omega) ⟨bs, y, rfl, hl, rfl⟩ ?_
            rintro k e ⟨bs, y, rfl, hl, rfl⟩
            have hbl : (bs.map D.bl).length < 100000 := by rw [List.length_map]; omega
            have hbl2 : ((bs.map D.bl).length : Int) = (bs.length : Int) := by rw [List.length_map]
            by_cases c1 : (bs.length : Int) < x0
            · by_cases c2 : 0 ≤ y
              · refine ⟨true, ?_, by simp, fun _ => ?_⟩
                · unfold E2 bL
                  simp (disch := first | omega | (simp only [List.length_cons, List.length_nil, List.length_map, List.length_set, List.length_append, List.length_replicate, Nat.zero_add, Nat.reduceAdd] <;> omega) | (simp only [noL, noLs, Bool.and_true, Bool.true_and, noLs_ints]; done) | (refine id ?_; with_unfolding_all rfl)) only [runF_ap, ini, List.replicate_succ, List.replicate_zero, List.length_cons, List.length_nil, List.length_set, Nat.reduceAdd, Nat.reduceSub, Nat.reduceLT, Nat.reduceLeDiff, Nat.zero_add, mIf_ap, brS_t, brS_f, brS_e, mSeq_ap, bindS_n, bindS_r, bindS_b, bindS_c, bindS_e, onE_v, onE_e, asgK_ok, mAsg_t, mAsg_f, mRet_ap, mExpr_t, mExpr_f, mRaise_ap, mNext_ap, mRetN_ap, mPass, mBrk, mCont, mRetV_ap, retK_s, mVar_ap, varK_s, mC_ap, bindE_v, bindE_e, m2_ap, b2_vv, b2_ve, b2_e, m1_ap, mN_ap, nK_i, nK_b, nK_n, nK_s, nK_e, nK_t, noL, noLs, Bool.and_true, Bool.true_and, mLN_ap, lnK_ok, mCons_ap, consA_v, consA_e, consA_ve, mNil_ap, mCall_ap, callK_v, callK_e, mTup_ap, mLst_ap, tupK_v, lstK_v, tupK_e, lstK_e, mAnd_ap, mOr_ap, andK_t, andK_f, orK_t, orK_f, andK_e, orK_e, mIfE_ap, ifK_t, ifK_f, mChain_ap, ch2_v, chK_t, chK_f, mSl_ap, slK_ii, slK_ni, slK_in, slK_nn, mInt_ap, intK_i, fAdd_i, fSub_i, fMul_l, fMul_r, fMod_i, fDiv_i, fPow_18, fPow_20, fPow_3, fShl_i, Int.one_mul, fNeg_i, fLt_t, fLt_f, fLe_t, fLe_f, fGt_t, fGt_f, fGe_t, fGe_f, fEq_t, fEq_f, fNe_t, fNe_f, fNot_b, Bool.not_true, Bool.not_false, fIsi_ap, isAdr_i, isAdr_b, isAdr_s, isAdr_l, isAdr_t, isAdr_n, isAdr_c, isK_inti, isK_intb, isK_ints, isK_intl, isK_intt, isK_intn, isK_booli, isK_boolb, isK_bools, isK_booll, isK_boolt, isK_booln, isK_stri, isK_strb, isK_strs, isK_strl, isK_strt, isK_strn, isK_listi, isK_listb, isK_lists, isK_listl, isK_listt, isK_listn, isK_tuplei, isK_tupleb, isK_tuples, isK_tuplel, isK_tuplet, isK_tuplen, isK_listscr, fMax_i, fMin_i, fIsN_n, fIsN_i, fIdx_0, fIdx_1, fIdx_2, fIdx_3, fIdx_4, fIdx_5, fIdx_6, fIdxT_0, fIdxT_1, fIdxT_2, fIdxT_3, fLen_l, fLen_t, fLen_s, fSl_l, fSl_s, fItL_l, fItL_s, fItT_t, mIter_ap, itK_v, mIt1_ap, it1K_v, fRng_1, fRng_2, mFor_t, mFor_f, forK_v, mLc_ap, lcK_v, lcK_e, mAppMv_ap, app1_l, mParN_ap, parK_v, mAsgTz_f, mAsgTz_t, tzK_2, mMut_ap, mutK_0, mut0_appS, mut0_appLa, mut0_ext, mut0_clr, mut0_clrLa, mAsgT_f, mAsgT_t, tK_2, vw_t, vw_f, mFrz_ap, frz_ap, frzK_s, frzK_n, finR_r, finR_nn, finR_nz, List.nil_append, finR_e, Fr.fz, look, dOf_nil, dOf_c, hOf_nil, hOf_c, hid, Option.map_some, Option.map_none, List.set_cons_zero, List.set_cons_succ, List.getElem?_cons_zero, List.getElem?_cons_succ, List.length_map, wipeE, mPut_ap, putK_0, put0_l, put0_la, Int.toNat_natCast, mutK_p, mutI_s, mutP_s, mutQ_app, mutQ_clr, putK_p, putI_s, putP_s, putQ_ok, mSnoc_k, snocK_0, snocK_1, snocK_2, intsD_n, intsD_c, consO_s, dig_n, dig_l, dig_t, digK_s, digF_n, digF_l, digF_t, digFK_s, atI_0, atI_1, atI_2, atI_m1, bury_n, bury_t0, bury_t1, bury_t2, bury_l0, bury_l1, hbl2]
                · have e2 : fEq (.int ((0 + (i : Int) + x2) % 2)) (.int 0) = .val (.bl (decide ((0 + (i : Int) + x2) % 2 = 0))) := fEq_i
                  unfold l1__law_empties E2 bL
                  simp (disch := first | omega | (simp only [List.length_cons, List.length_nil, List.length_map, List.length_set, List.length_append, List.length_replicate, Nat.zero_add, Nat.reduceAdd] <;> omega) | (simp only [noL, noLs, Bool.and_true, Bool.true_and, noLs_ints]; done) | (refine id ?_; with_unfolding_all rfl)) only [runF_ap, ini, List.replicate_succ, List.replicate_zero, List.length_cons, List.length_nil, List.length_set, Nat.reduceAdd, Nat.reduceSub, Nat.reduceLT, Nat.reduceLeDiff, Nat.zero_add, mIf_ap, brS_t, brS_f, brS_e, mSeq_ap, bindS_n, bindS_r, bindS_b, bindS_c, bindS_e, onE_v, onE_e, asgK_ok, mAsg_t, mAsg_f, mRet_ap, mExpr_t, mExpr_f, mRaise_ap, mNext_ap, mRetN_ap, mPass, mBrk, mCont, mRetV_ap, retK_s, mVar_ap, varK_s, mC_ap, bindE_v, bindE_e, m2_ap, b2_vv, b2_ve, b2_e, m1_ap, mN_ap, nK_i, nK_b, nK_n, nK_s, nK_e, nK_t, noL, noLs, Bool.and_true, Bool.true_and, mLN_ap, lnK_ok, mCons_ap, consA_v, consA_e, consA_ve, mNil_ap, mCall_ap, callK_v, callK_e, mTup_ap, mLst_ap, tupK_v, lstK_v, tupK_e, lstK_e, mAnd_ap, mOr_ap, andK_t, andK_f, orK_t, orK_f, andK_e, orK_e, mIfE_ap, ifK_t, ifK_f, mChain_ap, ch2_v, chK_t, chK_f, mSl_ap, slK_ii, slK_ni, slK_in, slK_nn, mInt_ap, intK_i, fAdd_i, fSub_i, fMul_l, fMul_r, fMod_i, fDiv_i, fPow_18, fPow_20, fPow_3, fShl_i, Int.one_mul, fNeg_i, fLt_t, fLt_f, fLe_t, fLe_f, fGt_t, fGt_f, fGe_t, fGe_f, fEq_t, fEq_f, fNe_t, fNe_f, fNot_b, Bool.not_true, Bool.not_false, fIsi_ap, isAdr_i, isAdr_b, isAdr_s, isAdr_l, isAdr_t, isAdr_n, isAdr_c, isK_inti, isK_intb, isK_ints, isK_intl, isK_intt, isK_intn, isK_booli, isK_boolb, isK_bools, isK_booll, isK_boolt, isK_booln, isK_stri, isK_strb, isK_strs, isK_strl, isK_strt, isK_strn, isK_listi, isK_listb, isK_lists, isK_listl, isK_listt, isK_listn, isK_tuplei, isK_tupleb, isK_tuples, isK_tuplel, isK_tuplet, isK_tuplen, isK_listscr, fMax_i, fMin_i, fIsN_n, fIsN_i, fIdx_0, fIdx_1, fIdx_2, fIdx_3, fIdx_4, fIdx_5, fIdx_6, fIdxT_0, fIdxT_1, fIdxT_2, fIdxT_3, fLen_l, fLen_t, fLen_s, fSl_l, fSl_s, fItL_l, fItL_s, fItT_t, mIter_ap, itK_v, mIt1_ap, it1K_v, fRng_1, fRng_2, mFor_t, mFor_f, forK_v, mLc_ap, lcK_v, lcK_e, mAppMv_ap, app1_l, mParN_ap, parK_v, mAsgTz_f, mAsgTz_t, tzK_2, mMut_ap, mutK_0, mut0_appS, mut0_appLa, mut0_ext, mut0_clr, mut0_clrLa, mAsgT_f, mAsgT_t, tK_2, vw_t, vw_f, mFrz_ap, frz_ap, frzK_s, frzK_n, finR_r, finR_nn, finR_nz, List.nil_append, finR_e, Fr.fz, look, dOf_nil, dOf_c, hOf_nil, hOf_c, hid, Option.map_some, Option.map_none, List.set_cons_zero, List.set_cons_succ, List.getElem?_cons_zero, List.getElem?_cons_succ, List.length_map, wipeE, mPut_ap, putK_0, put0_l, put0_la, Int.toNat_natCast, mutK_p, mutI_s, mutP_s, mutQ_app, mutQ_clr, putK_p, putI_s, putP_s, putQ_ok, mSnoc_k, snocK_0, snocK_1, snocK_2, intsD_n, intsD_c, consO_s, dig_n, dig_l, dig_t, digK_s, digF_n, digF_l, digF_t, digFK_s, atI_0, atI_1, atI_2, atI_m1, bury_n, bury_t0, bury_t1, bury_t2, bury_l0, bury_l1, e2]
                  refine ⟨m - (bs.length + 1), by omega, bs ++ [decide ((0 + (i : Int) + x2) % 2 = 0)], y - 1, by simp, by simp; omega, ?_⟩
                  rw [List.map_append]
                  rfl
              · refine ⟨false, ?_, fun _ => ⟨bs, y, rfl, hl⟩, by simp⟩
                unfold E2 bL
                simp (disch := first | omega | (simp only [List.length_cons, List.length_nil, List.length_map, List.length_set, List.length_append, List.length_replicate, Nat.zero_add, Nat.reduceAdd] <;> omega) | (simp only [noL, noLs, Bool.and_true, Bool.true_and, noLs_ints]; done) | (refine id ?_; with_unfolding_all rfl)) only [runF_ap, ini, List.replicate_succ, List.replicate_zero, List.length_cons, List.length_nil, List.length_set, Nat.reduceAdd, Nat.reduceSub, Nat.reduceLT, Nat.reduceLeDiff, Nat.zero_add, mIf_ap, brS_t, brS_f, brS_e, mSeq_ap, bindS_n, bindS_r, bindS_b, bindS_c, bindS_e, onE_v, onE_e, asgK_ok, mAsg_t, mAsg_f, mRet_ap, mExpr_t, mExpr_f, mRaise_ap, mNext_ap, mRetN_ap, mPass, mBrk, mCont, mRetV_ap, retK_s, mVar_ap, varK_s, mC_ap, bindE_v, bindE_e, m2_ap, b2_vv, b2_ve, b2_e, m1_ap, mN_ap, nK_i, nK_b, nK_n, nK_s, nK_e, nK_t, noL, noLs, Bool.and_true, Bool.true_and, mLN_ap, lnK_ok, mCons_ap, consA_v, consA_e, consA_ve, mNil_ap, mCall_ap, callK_v, callK_e, mTup_ap, mLst_ap, tupK_v, lstK_v, tupK_e, lstK_e, mAnd_ap, mOr_ap, andK_t, andK_f, orK_t, orK_f, andK_e, orK_e, mIfE_ap, ifK_t, ifK_f, mChain_ap, ch2_v, chK_t, chK_f, mSl_ap, slK_ii, slK_ni, slK_in, slK_nn, mInt_ap, intK_i, fAdd_i, fSub_i, fMul_l, fMul_r, fMod_i, fDiv_i, fPow_18, fPow_20, fPow_3, fShl_i, Int.one_mul, fNeg_i, fLt_t, fLt_f, fLe_t, fLe_f, fGt_t, fGt_f, fGe_t, fGe_f, fEq_t, fEq_f, fNe_t, fNe_f, fNot_b, Bool.not_true, Bool.not_false, fIsi_ap, isAdr_i, isAdr_b, isAdr_s, isAdr_l, isAdr_t, isAdr_n, isAdr_c, isK_inti, isK_intb, isK_ints, isK_intl, isK_intt, isK_intn, isK_booli, isK_boolb, isK_bools, isK_booll, isK_boolt, isK_booln, isK_stri, isK_strb, isK_strs, isK_strl, isK_strt, isK_strn, isK_listi, isK_listb, isK_lists, isK_listl, isK_listt, isK_listn, isK_tuplei, isK_tupleb, isK_tuples, isK_tuplel, isK_tuplet, isK_tuplen, isK_listscr, fMax_i, fMin_i, fIsN_n, fIsN_i, fIdx_0, fIdx_1, fIdx_2, fIdx_3, fIdx_4, fIdx_5, fIdx_6, fIdxT_0, fIdxT_1, fIdxT_2, fIdxT_3, fLen_l, fLen_t, fLen_s, fSl_l, fSl_s, fItL_l, fItL_s, fItT_t, mIter_ap, itK_v, mIt1_ap, it1K_v, fRng_1, fRng_2, mFor_t, mFor_f, forK_v, mLc_ap, lcK_v, lcK_e, mAppMv_ap, app1_l, mParN_ap, parK_v, mAsgTz_f, mAsgTz_t, tzK_2, mMut_ap, mutK_0, mut0_appS, mut0_appLa, mut0_ext, mut0_clr, mut0_clrLa, mAsgT_f, mAsgT_t, tK_2, vw_t, vw_f, mFrz_ap, frz_ap, frzK_s, frzK_n, finR_r, finR_nn, finR_nz, List.nil_append, finR_e, Fr.fz, look, dOf_nil, dOf_c, hOf_nil, hOf_c, hid, Option.map_some, Option.map_none, List.set_cons_zero, List.set_cons_succ, List.getElem?_cons_zero, List.getElem?_cons_succ, List.length_map, wipeE, mPut_ap, putK_0, put0_l, put0_la, Int.toNat_natCast, mutK_p, mutI_s, mutP_s, mutQ_app, mutQ_clr, putK_p, putI_s, putP_s, putQ_ok, mSnoc_k, snocK_0, snocK_1, snocK_2, intsD_n, intsD_c, consO_s, dig_n, dig_l, dig_t, digK_s, digF_n, digF_l, digF_t, digFK_s, atI_0, atI_1, atI_2, atI_m1, bury_n, bury_t0, bury_t1, bury_t2, bury_l0, bury_l1, hbl2]
            · refine ⟨false, ?_, fun _ => ⟨bs, y, rfl, hl⟩, by simp⟩
              unfold E2 bL
              simp (disch := first | omega | (simp only [List.length_cons, List.length_nil, List.length_map, List.length_set, List.length_append, List.length_replicate, Nat.zero_add, Nat.reduceAdd] <;> omega) | (simp only [noL, noLs, Bool.and_true, Bool.true_and, noLs_ints]; done) | (refine id ?_; with_unfolding_all rfl)) only [runF_ap, ini, List.replicate_succ, List.replicate_zero, List.length_cons, List.length_nil, List.length_set, Nat.reduceAdd, Nat.reduceSub, Nat.reduceLT, Nat.reduceLeDiff, Nat.zero_add, mIf_ap, brS_t, brS_f, brS_e, mSeq_ap, bindS_n, bindS_r, bindS_b, bindS_c, bindS_e, onE_v, onE_e, asgK_ok, mAsg_t, mAsg_f, mRet_ap, mExpr_t, mExpr_f, mRaise_ap, mNext_ap, mRetN_ap, mPass, mBrk, mCont, mRetV_ap, retK_s, mVar_ap, varK_s, mC_ap, bindE_v, bindE_e, m2_ap, b2_vv, b2_ve, b2_e, m1_ap, mN_ap, nK_i, nK_b, nK_n, nK_s, nK_e, nK_t, noL, noLs, Bool.and_true, Bool.true_and, mLN_ap, lnK_ok, mCons_ap, consA_v, consA_e, consA_ve, mNil_ap, mCall_ap, callK_v, callK_e, mTup_ap, mLst_ap, tupK_v, lstK_v, tupK_e, lstK_e, mAnd_ap, mOr_ap, andK_t, andK_f, orK_t, orK_f, andK_e, orK_e, mIfE_ap, ifK_t, ifK_f, mChain_ap, ch2_v, chK_t, chK_f, mSl_ap, slK_ii, slK_ni, slK_in, slK_nn, mInt_ap, intK_i, fAdd_i, fSub_i, fMul_l, fMul_r, fMod_i, fDiv_i, fPow_18, fPow_20, fPow_3, fShl_i, Int.one_mul, fNeg_i, fLt_t, fLt_f, fLe_t, fLe_f, fGt_t, fGt_f, fGe_t, fGe_f, fEq_t, fEq_f, fNe_t, fNe_f, fNot_b, Bool.not_true, Bool.not_false, fIsi_ap, isAdr_i, isAdr_b, isAdr_s, isAdr_l, isAdr_t, isAdr_n, isAdr_c, isK_inti, isK_intb, isK_ints, isK_intl, isK_intt, isK_intn, isK_booli, isK_boolb, isK_bools, isK_booll, isK_boolt, isK_booln, isK_stri, isK_strb, isK_strs, isK_strl, isK_strt, isK_strn, isK_listi, isK_listb, isK_lists, isK_listl, isK_listt, isK_listn, isK_tuplei, isK_tupleb, isK_tuples, isK_tuplel, isK_tuplet, isK_tuplen, isK_listscr, fMax_i, fMin_i, fIsN_n, fIsN_i, fIdx_0, fIdx_1, fIdx_2, fIdx_3, fIdx_4, fIdx_5, fIdx_6, fIdxT_0, fIdxT_1, fIdxT_2, fIdxT_3, fLen_l, fLen_t, fLen_s, fSl_l, fSl_s, fItL_l, fItL_s, fItT_t, mIter_ap, itK_v, mIt1_ap, it1K_v, fRng_1, fRng_2, mFor_t, mFor_f, forK_v, mLc_ap, lcK_v, lcK_e, mAppMv_ap, app1_l, mParN_ap, parK_v, mAsgTz_f, mAsgTz_t, tzK_2, mMut_ap, mutK_0, mut0_appS, mut0_appLa, mut0_ext, mut0_clr, mut0_clrLa, mAsgT_f, mAsgT_t, tK_2, vw_t, vw_f, mFrz_ap, frz_ap, frzK_s, frzK_n, finR_r, finR_nn, finR_nz, List.nil_append, finR_e, Fr.fz, look, dOf_nil, dOf_c, hOf_nil, hOf_c, hid, Option.map_some, Option.map_none, List.set_cons_zero, List.set_cons_succ, List.getElem?_cons_zero, List.getElem?_cons_succ, List.length_map, wipeE, mPut_ap, putK_0, put0_l, put0_la, Int.toNat_natCast, mutK_p, mutI_s, mutP_s, mutQ_app, mutQ_clr, putK_p, putI_s, putP_s, putQ_ok, mSnoc_k, snocK_0, snocK_1, snocK_2, intsD_n, intsD_c, consO_s, dig_n, dig_l, dig_t, digK_s, digF_n, digF_l, digF_t, digFK_s, atI_0, atI_1, atI_2, atI_m1, bury_n, bury_t0, bury_t1, bury_t2, bury_l0, bury_l1, hbl2]
          obtain ⟨bs', y', kw, hl'⟩ := kw
          unfold E2 bL at kw
          unfold bL
          simp (disch := first | omega | (simp only [List.length_cons, List.length_nil, List.length_map, List.length_set, List.length_append, List.length_replicate, Nat.zero_add, Nat.reduceAdd] <;> omega) | (simp only [noL, noLs, Bool.and_true, Bool.true_and, noLs_ints]; done) | (refine id ?_; with_unfolding_all rfl)) only [runF_ap, ini, List.replicate_succ, List.replicate_zero, List.length_cons, List.length_nil, List.length_set, Nat.reduceAdd, Nat.reduceSub, Nat.reduceLT, Nat.reduceLeDiff, Nat.zero_add, mIf_ap, brS_t, brS_f, brS_e, mSeq_ap, bindS_n, bindS_r, bindS_b, bindS_c, bindS_e, onE_v, onE_e, asgK_ok, mAsg_t, mAsg_f, mRet_ap, mExpr_t, mExpr_f, mRaise_ap, mNext_ap, mRetN_ap, mPass, mBrk, mCont, mRetV_ap, retK_s, mVar_ap, varK_s, mC_ap, bindE_v, bindE_e, m2_ap, b2_vv, b2_ve, b2_e, m1_ap, mN_ap, nK_i, nK_b, nK_n, nK_s, nK_e, nK_t, noL, noLs, Bool.and_true, Bool.true_and, mLN_ap, lnK_ok, mCons_ap, consA_v, consA_e, consA_ve, mNil_ap, mCall_ap, callK_v, callK_e, mTup_ap, mLst_ap, tupK_v, lstK_v, tupK_e, lstK_e, mAnd_ap, mOr_ap, andK_t, andK_f, orK_t, orK_f, andK_e, orK_e, mIfE_ap, ifK_t, ifK_f, mChain_ap, ch2_v, chK_t, chK_f, mSl_ap, slK_ii, slK_ni, slK_in, slK_nn, mInt_ap, intK_i, fAdd_i, fSub_i, fMul_l, fMul_r, fMod_i, fDiv_i, fPow_18, fPow_20, fPow_3, fShl_i, Int.one_mul, fNeg_i, fLt_t, fLt_f, fLe_t, fLe_f, fGt_t, fGt_f, fGe_t, fGe_f, fEq_t, fEq_f, fNe_t, fNe_f, fNot_b, Bool.not_true, Bool.not_false, fIsi_ap, isAdr_i, isAdr_b, isAdr_s, isAdr_l, isAdr_t, isAdr_n, isAdr_c, isK_inti, isK_intb, isK_ints, isK_intl, isK_intt, isK_intn, isK_booli, isK_boolb, isK_bools, isK_booll, isK_boolt, isK_booln, isK_stri, isK_strb, isK_strs, isK_strl, isK_strt, isK_strn, isK_listi, isK_listb, isK_lists, isK_listl, isK_listt, isK_listn, isK_tuplei, isK_tupleb, isK_tuples, isK_tuplel, isK_tuplet, isK_tuplen, isK_listscr, fMax_i, fMin_i, fIsN_n, fIsN_i, fIdx_0, fIdx_1, fIdx_2, fIdx_3, fIdx_4, fIdx_5, fIdx_6, fIdxT_0, fIdxT_1, fIdxT_2, fIdxT_3, fLen_l, fLen_t, fLen_s, fSl_l, fSl_s, fItL_l, fItL_s, fItT_t, mIter_ap, itK_v, mIt1_ap, it1K_v, fRng_1, fRng_2, mFor_t, mFor_f, forK_v, mLc_ap, lcK_v, lcK_e, mAppMv_ap, app1_l, mParN_ap, parK_v, mAsgTz_f, mAsgTz_t, tzK_2, mMut_ap, mutK_0, mut0_appS, mut0_appLa, mut0_ext, mut0_clr, mut0_clrLa, mAsgT_f, mAsgT_t, tK_2, vw_t, vw_f, mFrz_ap, frz_ap, frzK_s, frzK_n, finR_r, finR_nn, finR_nz, List.nil_append, finR_e, Fr.fz, look, dOf_nil, dOf_c, hOf_nil, hOf_c, hid, Option.map_some, Option.map_none, List.set_cons_zero, List.set_cons_succ, List.getElem?_cons_zero, List.getElem?_cons_succ, List.length_map, wipeE, mPut_ap, putK_0, put0_l, put0_la, Int.toNat_natCast, mutK_p, mutI_s, mutP_s, mutQ_app, mutQ_clr, putK_p, putI_s, putP_s, putQ_ok, mSnoc_k, snocK_0, snocK_1, snocK_2, intsD_n, intsD_c, consO_s, dig_n, dig_l, dig_t, digK_s, digF_n, digF_l, digF_t, digFK_s, atI_0, atI_1, atI_2, atI_m1, bury_n, bury_t0, bury_t1, bury_t2, bury_l0, bury_l1, ei, kw]
          exact ⟨bs', _, _, rfl, hl', fun z => absurd z (by omega)⟩
        · obtain ⟨z, hz, ez⟩ := @fIdx_mem [6, 1, 10] x1 a1 (by simp; omega)
          simp only [List.map] at ez
          have eg : fGe (.int y) (.int z) = .val (.bl (decide (z ≤ y))) := fGe_i
          unfold bL
          simp (disch := first | omega | (simp only [List.length_cons, List.length_nil, List.length_map, List.length_set, List.length_append, List.length_replicate, Nat.zero_add, Nat.reduceAdd] <;> omega) | (simp only [noL, noLs, Bool.and_true, Bool.true_and, noLs_ints]; done) | (refine id ?_; with_unfolding_all rfl)) only [runF_ap, ini, List.replicate_succ, List.replicate_zero, List.length_cons, List.length_nil, List.length_set, Nat.reduceAdd, Nat.reduceSub, Nat.reduceLT, Nat.reduceLeDiff, Nat.zero_add, mIf_ap, brS_t, brS_f, brS_e, mSeq_ap, bindS_n, bindS_r, bindS_b, bindS_c, bindS_e, onE_v, onE_e, asgK_ok, mAsg_t, mAsg_f, mRet_ap, mExpr_t, mExpr_f, mRaise_ap, mNext_ap, mRetN_ap, mPass, mBrk, mCont, mRetV_ap, retK_s, mVar_ap, varK_s, mC_ap, bindE_v, bindE_e, m2_ap, b2_vv, b2_ve, b2_e, m1_ap, mN_ap, nK_i, nK_b, nK_n, nK_s, nK_e, nK_t, noL, noLs, Bool.and_true, Bool.true_and, mLN_ap, lnK_ok, mCons_ap, consA_v, consA_e, consA_ve, mNil_ap, mCall_ap, callK_v, callK_e, mTup_ap, mLst_ap, tupK_v, lstK_v, tupK_e, lstK_e, mAnd_ap, mOr_ap, andK_t, andK_f, orK_t, orK_f, andK_e, orK_e, mIfE_ap, ifK_t, ifK_f, mChain_ap, ch2_v, chK_t, chK_f, mSl_ap, slK_ii, slK_ni, slK_in, slK_nn, mInt_ap, intK_i, fAdd_i, fSub_i, fMul_l, fMul_r, fMod_i, fDiv_i, fPow_18, fPow_20, fPow_3, fShl_i, Int.one_mul, fNeg_i, fLt_t, fLt_f, fLe_t, fLe_f, fGt_t, fGt_f, fGe_t, fGe_f, fEq_t, fEq_f, fNe_t, fNe_f, fNot_b, Bool.not_true, Bool.not_false, fIsi_ap, isAdr_i, isAdr_b, isAdr_s, isAdr_l, isAdr_t, isAdr_n, isAdr_c, isK_inti, isK_intb, isK_ints, isK_intl, isK_intt, isK_intn, isK_booli, isK_boolb, isK_bools, isK_booll, isK_boolt, isK_booln, isK_stri, isK_strb, isK_strs, isK_strl, isK_strt, isK_strn, isK_listi, isK_listb, isK_lists, isK_listl, isK_listt, isK_listn, isK_tuplei, isK_tupleb, isK_tuples, isK_tuplel, isK_tuplet, isK_tuplen, isK_listscr, fMax_i, fMin_i, fIsN_n, fIsN_i, fIdx_0, fIdx_1, fIdx_2, fIdx_3, fIdx_4, fIdx_5, fIdx_6, fIdxT_0, fIdxT_1, fIdxT_2, fIdxT_3, fLen_l, fLen_t, fLen_s, fSl_l, fSl_s, fItL_l, fItL_s, fItT_t, mIter_ap, itK_v, mIt1_ap, it1K_v, fRng_1, fRng_2, mFor_t, mFor_f, forK_v, mLc_ap, lcK_v, lcK_e, mAppMv_ap, app1_l, mParN_ap, parK_v, mAsgTz_f, mAsgTz_t, tzK_2, mMut_ap, mutK_0, mut0_appS, mut0_appLa, mut0_ext, mut0_clr, mut0_clrLa, mAsgT_f, mAsgT_t, tK_2, vw_t, vw_f, mFrz_ap, frz_ap, frzK_s, frzK_n, finR_r, finR_nn, finR_nz, List.nil_append, finR_e, Fr.fz, look, dOf_nil, dOf_c, hOf_nil, hOf_c, hid, Option.map_some, Option.map_none, List.set_cons_zero, List.set_cons_succ, List.getElem?_cons_zero, List.getElem?_cons_succ, List.length_map, wipeE, mPut_ap, putK_0, put0_l, put0_la, Int.toNat_natCast, mutK_p, mutI_s, mutP_s, mutQ_app, mutQ_clr, putK_p, putI_s, putP_s, putQ_ok, mSnoc_k, snocK_0, snocK_1, snocK_2, intsD_n, intsD_c, consO_s, dig_n, dig_l, dig_t, digK_s, digF_n, digF_l, digF_t, digFK_s, atI_0, atI_1, atI_2, atI_m1, bury_n, bury_t0, bury_t1, bury_t2, bury_l0, bury_l1, ei, ez, eg]
          exact ⟨bs ++ [decide (z ≤ y)], _, _, by rw [app]; rfl, by simp; have := hR (by omega); omega, fun _ => by simp; have := hR (by omega); omega⟩
    · rintro e ⟨bs, k, h, rfl, hl, _⟩
      exact ⟨bs, k, h, rfl, hl⟩
  obtain ⟨bs, k, h, he, hl⟩ := key
  refine ⟨bs, ?_, hl⟩
  have hl2 : ([D.int ((m : Int) + 1), D.int 6, D.int 2] : List D).length + (List.replicate m (D.int 12)).length < 100000 := by simp; omega
  simp only [E, bL, List.map_nil] at he
  unfold m__law_empties b__law_empties bL
  simp (disch := first | omega | (simp only [List.length_cons, List.length_nil, List.length_map, List.length_set, List.length_append, List.length_replicate, Nat.zero_add, Nat.reduceAdd] <;> omega) | (simp only [noL, noLs, Bool.and_true, Bool.true_and, noLs_ints]; done) | (refine id ?_; with_unfolding_all rfl)) only [runF_ap, ini, List.replicate_succ, List.replicate_zero, List.length_cons, List.length_nil, List.length_set, Nat.reduceAdd, Nat.reduceSub, Nat.reduceLT, Nat.reduceLeDiff, Nat.zero_add, mIf_ap, brS_t, brS_f, brS_e, mSeq_ap, bindS_n, bindS_r, bindS_b, bindS_c, bindS_e, onE_v, onE_e, asgK_ok, mAsg_t, mAsg_f, mRet_ap, mExpr_t, mExpr_f, mRaise_ap, mNext_ap, mRetN_ap, mPass, mBrk, mCont, mRetV_ap, retK_s, mVar_ap, varK_s, mC_ap, bindE_v, bindE_e, m2_ap, b2_vv, b2_ve, b2_e, m1_ap, mN_ap, nK_i, nK_b, nK_n, nK_s, nK_e, nK_t, noL, noLs, Bool.and_true, Bool.true_and, mLN_ap, lnK_ok, mCons_ap, consA_v, consA_e, consA_ve, mNil_ap, mCall_ap, callK_v, callK_e, mTup_ap, mLst_ap, tupK_v, lstK_v, tupK_e, lstK_e, mAnd_ap, mOr_ap, andK_t, andK_f, orK_t, orK_f, andK_e, orK_e, mIfE_ap, ifK_t, ifK_f, mChain_ap, ch2_v, chK_t, chK_f, mSl_ap, slK_ii, slK_ni, slK_in, slK_nn, mInt_ap, intK_i, fAdd_i, fSub_i, fMul_l, fMul_r, fMod_i, fDiv_i, fPow_18, fPow_20, fPow_3, fShl_i, Int.one_mul, fNeg_i, fLt_t, fLt_f, fLe_t, fLe_f, fGt_t, fGt_f, fGe_t, fGe_f, fEq_t, fEq_f, fNe_t, fNe_f, fNot_b, Bool.not_true, Bool.not_false, fIsi_ap, isAdr_i, isAdr_b, isAdr_s, isAdr_l, isAdr_t, isAdr_n, isAdr_c, isK_inti, isK_intb, isK_ints, isK_intl, isK_intt, isK_intn, isK_booli, isK_boolb, isK_bools, isK_booll, isK_boolt, isK_booln, isK_stri, isK_strb, isK_strs, isK_strl, isK_strt, isK_strn, isK_listi, isK_listb, isK_lists, isK_listl, isK_listt, isK_listn, isK_tuplei, isK_tupleb, isK_tuples, isK_tuplel, isK_tuplet, isK_tuplen, isK_listscr, fMax_i, fMin_i, fIsN_n, fIsN_i, fIdx_0, fIdx_1, fIdx_2, fIdx_3, fIdx_4, fIdx_5, fIdx_6, fIdxT_0, fIdxT_1, fIdxT_2, fIdxT_3, fLen_l, fLen_t, fLen_s, fSl_l, fSl_s, fItL_l, fItL_s, fItT_t, mIter_ap, itK_v, mIt1_ap, it1K_v, fRng_1, fRng_2, mFor_t, mFor_f, forK_v, mLc_ap, lcK_v, lcK_e, mAppMv_ap, app1_l, mParN_ap, parK_v, mAsgTz_f, mAsgTz_t, tzK_2, mMut_ap, mutK_0, mut0_appS, mut0_appLa, mut0_ext, mut0_clr, mut0_clrLa, mAsgT_f, mAsgT_t, tK_2, vw_t, vw_f, mFrz_ap, frz_ap, frzK_s, frzK_n, finR_r, finR_nn, finR_nz, List.nil_append, finR_e, Fr.fz, look, dOf_nil, dOf_c, hOf_nil, hOf_c, hid, Option.map_some, Option.map_none, List.set_cons_zero, List.set_cons_succ, List.getElem?_cons_zero, List.getElem?_cons_succ, List.length_map, wipeE, mPut_ap, putK_0, put0_l, put0_la, Int.toNat_natCast, mutK_p, mutI_s, mutP_s, mutQ_app, mutQ_clr, putK_p, putI_s, putP_s, putQ_ok, mSnoc_k, snocK_0, snocK_1, snocK_2, intsD_n, intsD_c, consO_s, dig_n, dig_l, dig_t, digK_s, digF_n, digF_l, digF_t, digFK_s, atI_0, atI_1, atI_2, atI_m1, bury_n, bury_t0, bury_t1, bury_t2, bury_l0, bury_l1, fRep_1, fCat_l, hr, he]
theorem blsD_bls : ∀ bs : List Bool, blsD (bs.map D.bl) = some bs
  | [] => rfl
  | b :: r => by rw [List.map_cons, blsD, blsD_bls r]

/-! ### blocks -/
def ah : List Bool → Nat
  | [] => 0
  | true :: r => ah r + 1
  | false :: _ => 0
def bh (bs : List Bool) : Nat := ah bs.reverse
def lg : List Bool → Nat
  | [] => 0
  | b :: r => max (ah (b :: r)) (lg r)
theorem ah_le : ∀ bs, ah bs ≤ bs.length
  | [] => Nat.le_refl _
  | true :: r => by have := ah_le r; simp [ah]; omega
  | false :: r => by simp [ah]
theorem ah_lg : ∀ bs, ah bs ≤ lg bs
  | [] => Nat.le_refl _
  | b :: r => by unfold lg; omega
theorem lg_le : ∀ bs, lg bs ≤ bs.length
  | [] => Nat.le_refl _
  | b :: r => by
    have h1 := lg_le r
    have h2 := ah_le (b :: r)
    unfold lg
    simp at h2 ⊢
    omega
theorem ah_app : ∀ xs ys, ah (xs ++ ys) = if ah xs = xs.length then xs.length + ah ys else ah xs
  | [], ys => by simp [ah]
  | true :: r, ys => by
    have h := ah_app r ys
    have e2 : ah (true :: (r ++ ys)) = ah (r ++ ys) + 1 := rfl
    have e3 : ah (true :: r) = ah r + 1 := rfl
    have := ah_le r
    rw [List.cons_append, e2, e3, h, List.length_cons]
    split <;> split <;> omega
  | false :: r, ys => by simp [ah]
theorem bh_app (xs ys : List Bool) : bh (xs ++ ys) = if bh ys = ys.length then ys.length + bh xs else bh ys := by
  unfold bh
  rw [List.reverse_append, ah_app, List.length_reverse]
theorem bh_le (bs : List Bool) : bh bs ≤ bs.length := by
  have := ah_le bs.reverse
  rw [List.length_reverse] at this
  exact this
theorem bh_one (b : Bool) : bh [b] = if b = true then 1 else 0 := by cases b <;> rfl
/-- all of them: seen from either end -/
theorem ah_full : ∀ {bs}, ah bs = bs.length ↔ ∀ b ∈ bs, b = true
  | [] => by simp [ah]
  | true :: r => by
    have h := @ah_full r
    simp only [ah, List.length_cons, List.mem_cons]
    constructor
    · intro e b hb
      rcases hb with rfl | hb
      · rfl
      · exact h.mp (by omega) b hb
    · intro e
      rw [h.mpr fun b hb => e b (.inr hb)]
  | false :: r => by
    simp only [ah, List.length_cons, List.mem_cons]
    constructor
    · intro e; omega
    · intro e; have := e false (.inl rfl); cases this
theorem bh_full {bs : List Bool} : bh bs = bs.length ↔ ah bs = bs.length := by
  have h := @ah_full bs.reverse
  rw [List.length_reverse] at h
  unfold bh
  rw [h, ah_full]
  simp
theorem lg_app : ∀ xs ys, lg (xs ++ ys) = max (max (lg xs) (lg ys)) (bh xs + ah ys)
  | [], ys => by
    have := ah_lg ys
    simp [lg, bh, ah]
    omega
  | b :: r, ys => by
    have h := lg_app r ys
    have h1 := ah_app (b :: r) ys
    have h2 : bh (b :: r) = if bh r = r.length then r.length + bh [b] else bh r := bh_app [b] r
    rw [List.cons_append] at h1 ⊢
    have e0 : lg (b :: (r ++ ys)) = max (ah (b :: (r ++ ys))) (lg (r ++ ys)) := rfl
    have e1 : lg (b :: r) = max (ah (b :: r)) (lg r) := rfl
    rw [e0, e1, h, h1, h2, bh_one]
    have l1 := ah_le (b :: r)
    have l2 := bh_le r
    have l3 := lg_le r
    have l4 := ah_lg r
    have f1 := @bh_full r
    rw [List.length_cons] at l1 ⊢
    cases b with
    | true =>
      have e2 : ah (true :: r) = ah r + 1 := rfl
      rw [e2]
      by_cases c : ah r = r.length
      · rw [if_pos (by omega), if_pos (f1.mpr c), if_pos rfl, f1.mpr c]
        omega
      · rw [if_neg (by omega), if_neg (fun z => c (f1.mp z))]
        omega
    | false =>
      have e2 : ah (false :: r) = 0 := rfl
      rw [e2, if_neg (by omega)]
      by_cases c : bh r = r.length
      · rw [if_pos c, if_neg (by decide)]
        omega
      · rw [if_neg c]
        omega
/-- the law's count, from left to right -/
def lgF : Nat → Nat → List Bool → Nat
  | _, m, [] => m
  | h, m, b :: r => lgF (if b = true then h + 1 else 0) (max m (if b = true then h + 1 else 0)) r
theorem lgF_eq : ∀ (bs : List Bool) (h m : Nat), h ≤ m → lgF h m bs = max m (max (h + ah bs) (lg bs))
  | [], h, m, hm => by simp [lgF, ah, lg]; omega
  | true :: r, h, m, hm => by
    unfold lgF
    rw [if_pos rfl, lgF_eq r (h + 1) _ (by omega)]
    have e2 : ah (true :: r) = ah r + 1 := rfl
    have e1 : lg (true :: r) = max (ah (true :: r)) (lg r) := rfl
    rw [e1, e2]
    omega
  | false :: r, h, m, hm => by
    unfold lgF
    rw [if_neg (by decide), lgF_eq r 0 _ (by omega)]
    have e2 : ah (false :: r) = 0 := rfl
    have e1 : lg (false :: r) = max (ah (false :: r)) (lg r) := rfl
    have := ah_lg r
    rw [e1, e2]
    omega
def t4 (a b c d : Int) : D := .tup [.int a, .int b, .int c, .int d]
def bk (bs : List Bool) : D := t4 bs.length (ah bs) (bh bs) (lg bs)
theorem noL_t4 {a b c d : Int} : noL (t4 a b c d) = true := rfl
theorem okP_t4 {k : Nat} {a b c d : Int} : okP (k + 1) (t4 a b c d) = true := by
  unfold t4
  rw [okP]
  exact okPs_ints [a, b, c, d]
theorem take_ah : ∀ (bs : List Bool) (i : Nat), i < ah bs → bs[i]? = some true
  | true :: r, 0, _ => rfl
  | true :: r, i + 1, h => by simpa using take_ah r i (by simp [ah] at h; omega)
  | false :: r, i, h => by simp [ah] at h
theorem at_ah : ∀ (bs : List Bool), ah bs < bs.length → bs[ah bs]? = some false
  | [], h => by simp at h
  | true :: r, h => by
    have := at_ah r (by simp [ah] at h; omega)
    simpa [ah] using this
  | false :: r, h => rfl
theorem bL_at {bs : List Bool} {i : Int} {b : Bool} (h0 : 0 ≤ i) (h : bs[i.toNat]? = some b) : fIdx (bL bs) (.int i) = .val (.bl b) := fIdx_get h0 (by rw [List.getElem?_map, h]; rfl)
theorem rev_at {bs : List Bool} {j : Nat} (hj : j < bs.length) : bs[bs.length - 1 - j]? = bs.reverse[j]? := by
  rw [List.getElem?_reverse hj]
def jA (a b f : Int) : Int := if decide (b = a) = true then a + f else b
theorem joined_ok (a b c d e f g h : Int) : m_joined [t4 a b c d, t4 e f g h] = .val (t4 (a + e) (jA a b f) (jA e g c) (max (max d h) (c + f))) := by
  have e1 : fEq (.int b) (.int a) = .val (.bl (decide (b = a))) := fEq_i
  have e2 : fEq (.int g) (.int e) = .val (.bl (decide (g = e))) := fEq_i
  have e3 : fMax3 [.int d, .int h, .int (c + f)] = .val (.int (max (max d h) (c + f))) := rfl
  unfold m_joined b_joined t4 jA
  by_cases c1 : b = a
  · by_cases c2 : g = e
    · simp (disch := first | omega | (simp only [List.length_cons, List.length_nil, List.length_map, List.length_set, List.length_append, List.length_replicate, Nat.zero_add, Nat.reduceAdd] <;> omega) | (simp only [noL, noLs, Bool.and_true, Bool.true_and, noLs_ints]; done) | (refine id ?_; with_unfolding_all rfl)) only [runF_ap, ini, List.replicate_succ, List.replicate_zero, List.length_cons, List.length_nil, List.length_set, Nat.reduceAdd, Nat.reduceSub, Nat.reduceLT, Nat.reduceLeDiff, Nat.zero_add, mIf_ap, brS_t, brS_f, brS_e, mSeq_ap, bindS_n, bindS_r, bindS_b, bindS_c, bindS_e, onE_v, onE_e, asgK_ok, mAsg_t, mAsg_f, mRet_ap, mExpr_t, mExpr_f, mRaise_ap, mNext_ap, mRetN_ap, mPass, mBrk, mCont, mRetV_ap, retK_s, mVar_ap, varK_s, mC_ap, bindE_v, bindE_e, m2_ap, b2_vv, b2_ve, b2_e, m1_ap, mN_ap, nK_i, nK_b, nK_n, nK_s, nK_e, nK_t, noL, noLs, Bool.and_true, Bool.true_and, mLN_ap, lnK_ok, mCons_ap, consA_v, consA_e, consA_ve, mNil_ap, mCall_ap, callK_v, callK_e, mTup_ap, mLst_ap, tupK_v, lstK_v, tupK_e, lstK_e, mAnd_ap, mOr_ap, andK_t, andK_f, orK_t, orK_f, andK_e, orK_e, mIfE_ap, ifK_t, ifK_f, mChain_ap, ch2_v, chK_t, chK_f, mSl_ap, slK_ii, slK_ni, slK_in, slK_nn, mInt_ap, intK_i, fAdd_i, fSub_i, fMul_l, fMul_r, fMod_i, fDiv_i, fPow_18, fPow_20, fPow_3, fShl_i, Int.one_mul, fNeg_i, fLt_t, fLt_f, fLe_t, fLe_f, fGt_t, fGt_f, fGe_t, fGe_f, fEq_t, fEq_f, fNe_t, fNe_f, fNot_b, Bool.not_true, Bool.not_false, fIsi_ap, isAdr_i, isAdr_b, isAdr_s, isAdr_l, isAdr_t, isAdr_n, isAdr_c, isK_inti, isK_intb, isK_ints, isK_intl, isK_intt, isK_intn, isK_booli, isK_boolb, isK_bools, isK_booll, isK_boolt, isK_booln, isK_stri, isK_strb, isK_strs, isK_strl, isK_strt, isK_strn, isK_listi, isK_listb, isK_lists, isK_listl, isK_listt, isK_listn, isK_tuplei, isK_tupleb, isK_tuples, isK_tuplel, isK_tuplet, isK_tuplen, isK_listscr, fMax_i, fMin_i, fIsN_n, fIsN_i, fIdx_0, fIdx_1, fIdx_2, fIdx_3, fIdx_4, fIdx_5, fIdx_6, fIdxT_0, fIdxT_1, fIdxT_2, fIdxT_3, fLen_l, fLen_t, fLen_s, fSl_l, fSl_s, fItL_l, fItL_s, fItT_t, mIter_ap, itK_v, mIt1_ap, it1K_v, fRng_1, fRng_2, mFor_t, mFor_f, forK_v, mLc_ap, lcK_v, lcK_e, mAppMv_ap, app1_l, mParN_ap, parK_v, mAsgTz_f, mAsgTz_t, tzK_2, mMut_ap, mutK_0, mut0_appS, mut0_appLa, mut0_ext, mut0_clr, mut0_clrLa, mAsgT_f, mAsgT_t, tK_2, vw_t, vw_f, mFrz_ap, frz_ap, frzK_s, frzK_n, finR_r, finR_nn, finR_nz, List.nil_append, finR_e, Fr.fz, look, dOf_nil, dOf_c, hOf_nil, hOf_c, hid, Option.map_some, Option.map_none, List.set_cons_zero, List.set_cons_succ, List.getElem?_cons_zero, List.getElem?_cons_succ, List.length_map, wipeE, mPut_ap, putK_0, put0_l, put0_la, Int.toNat_natCast, mutK_p, mutI_s, mutP_s, mutQ_app, mutQ_clr, putK_p, putI_s, putP_s, putQ_ok, mSnoc_k, snocK_0, snocK_1, snocK_2, intsD_n, intsD_c, consO_s, dig_n, dig_l, dig_t, digK_s, digF_n, digF_l, digF_t, digFK_s, atI_0, atI_1, atI_2, atI_m1, bury_n, bury_t0, bury_t1, bury_t2, bury_l0, bury_l1, e1, e2, c1, c2, decide_true, e3, if_true]
    · simp (disch := first | omega | (simp only [List.length_cons, List.length_nil, List.length_map, List.length_set, List.length_append, List.length_replicate, Nat.zero_add, Nat.reduceAdd] <;> omega) | (simp only [noL, noLs, Bool.and_true, Bool.true_and, noLs_ints]; done) | (refine id ?_; with_unfolding_all rfl)) only [runF_ap, ini, List.replicate_succ, List.replicate_zero, List.length_cons, List.length_nil, List.length_set, Nat.reduceAdd, Nat.reduceSub, Nat.reduceLT, Nat.reduceLeDiff, Nat.zero_add, mIf_ap, brS_t, brS_f, brS_e, mSeq_ap, bindS_n, bindS_r, bindS_b, bindS_c, bindS_e, onE_v, onE_e, asgK_ok, mAsg_t, mAsg_f, mRet_ap, mExpr_t, mExpr_f, mRaise_ap, mNext_ap, mRetN_ap, mPass, mBrk, mCont, mRetV_ap, retK_s, mVar_ap, varK_s, mC_ap, bindE_v, bindE_e, m2_ap, b2_vv, b2_ve, b2_e, m1_ap, mN_ap, nK_i, nK_b, nK_n, nK_s, nK_e, nK_t, noL, noLs, Bool.and_true, Bool.true_and, mLN_ap, lnK_ok, mCons_ap, consA_v, consA_e, consA_ve, mNil_ap, mCall_ap, callK_v, callK_e, mTup_ap, mLst_ap, tupK_v, lstK_v, tupK_e, lstK_e, mAnd_ap, mOr_ap, andK_t, andK_f, orK_t, orK_f, andK_e, orK_e, mIfE_ap, ifK_t, ifK_f, mChain_ap, ch2_v, chK_t, chK_f, mSl_ap, slK_ii, slK_ni, slK_in, slK_nn, mInt_ap, intK_i, fAdd_i, fSub_i, fMul_l, fMul_r, fMod_i, fDiv_i, fPow_18, fPow_20, fPow_3, fShl_i, Int.one_mul, fNeg_i, fLt_t, fLt_f, fLe_t, fLe_f, fGt_t, fGt_f, fGe_t, fGe_f, fEq_t, fEq_f, fNe_t, fNe_f, fNot_b, Bool.not_true, Bool.not_false, fIsi_ap, isAdr_i, isAdr_b, isAdr_s, isAdr_l, isAdr_t, isAdr_n, isAdr_c, isK_inti, isK_intb, isK_ints, isK_intl, isK_intt, isK_intn, isK_booli, isK_boolb, isK_bools, isK_booll, isK_boolt, isK_booln, isK_stri, isK_strb, isK_strs, isK_strl, isK_strt, isK_strn, isK_listi, isK_listb, isK_lists, isK_listl, isK_listt, isK_listn, isK_tuplei, isK_tupleb, isK_tuples, isK_tuplel, isK_tuplet, isK_tuplen, isK_listscr, fMax_i, fMin_i, fIsN_n, fIsN_i, fIdx_0, fIdx_1, fIdx_2, fIdx_3, fIdx_4, fIdx_5, fIdx_6, fIdxT_0, fIdxT_1, fIdxT_2, fIdxT_3, fLen_l, fLen_t, fLen_s, fSl_l, fSl_s, fItL_l, fItL_s, fItT_t, mIter_ap, itK_v, mIt1_ap, it1K_v, fRng_1, fRng_2, mFor_t, mFor_f, forK_v, mLc_ap, lcK_v, lcK_e, mAppMv_ap, app1_l, mParN_ap, parK_v, mAsgTz_f, mAsgTz_t, tzK_2, mMut_ap, mutK_0, mut0_appS, mut0_appLa, mut0_ext, mut0_clr, mut0_clrLa, mAsgT_f, mAsgT_t, tK_2, vw_t, vw_f, mFrz_ap, frz_ap, frzK_s, frzK_n, finR_r, finR_nn, finR_nz, List.nil_append, finR_e, Fr.fz, look, dOf_nil, dOf_c, hOf_nil, hOf_c, hid, Option.map_some, Option.map_none, List.set_cons_zero, List.set_cons_succ, List.getElem?_cons_zero, List.getElem?_cons_succ, List.length_map, wipeE, mPut_ap, putK_0, put0_l, put0_la, Int.toNat_natCast, mutK_p, mutI_s, mutP_s, mutQ_app, mutQ_clr, putK_p, putI_s, putP_s, putQ_ok, mSnoc_k, snocK_0, snocK_1, snocK_2, intsD_n, intsD_c, consO_s, dig_n, dig_l, dig_t, digK_s, digF_n, digF_l, digF_t, digFK_s, atI_0, atI_1, atI_2, atI_m1, bury_n, bury_t0, bury_t1, bury_t2, bury_l0, bury_l1, e1, e2, c1, decide_eq_false c2, decide_true, e3, if_true, if_false, Bool.false_eq_true]
  · by_cases c2 : g = e
    · simp (disch := first | omega | (simp only [List.length_cons, List.length_nil, List.length_map, List.length_set, List.length_append, List.length_replicate, Nat.zero_add, Nat.reduceAdd] <;> omega) | (simp only [noL, noLs, Bool.and_true, Bool.true_and, noLs_ints]; done) | (refine id ?_; with_unfolding_all rfl)) only [runF_ap, ini, List.replicate_succ, List.replicate_zero, List.length_cons, List.length_nil, List.length_set, Nat.reduceAdd, Nat.reduceSub, Nat.reduceLT, Nat.reduceLeDiff, Nat.zero_add, mIf_ap, brS_t, brS_f, brS_e, mSeq_ap, bindS_n, bindS_r, bindS_b, bindS_c, bindS_e, onE_v, onE_e, asgK_ok, mAsg_t, mAsg_f, mRet_ap, mExpr_t, mExpr_f, mRaise_ap, mNext_ap, mRetN_ap, mPass, mBrk, mCont, mRetV_ap, retK_s, mVar_ap, varK_s, mC_ap, bindE_v, bindE_e, m2_ap, b2_vv, b2_ve, b2_e, m1_ap, mN_ap, nK_i, nK_b, nK_n, nK_s, nK_e, nK_t, noL, noLs, Bool.and_true, Bool.true_and, mLN_ap, lnK_ok, mCons_ap, consA_v, consA_e, consA_ve, mNil_ap, mCall_ap, callK_v, callK_e, mTup_ap, mLst_ap, tupK_v, lstK_v, tupK_e, lstK_e, mAnd_ap, mOr_ap, andK_t, andK_f, orK_t, orK_f, andK_e, orK_e, mIfE_ap, ifK_t, ifK_f, mChain_ap, ch2_v, chK_t, chK_f, mSl_ap, slK_ii, slK_ni, slK_in, slK_nn, mInt_ap, intK_i, fAdd_i, fSub_i, fMul_l, fMul_r, fMod_i, fDiv_i, fPow_18, fPow_20, fPow_3, fShl_i, Int.one_mul, fNeg_i, fLt_t, fLt_f, fLe_t, fLe_f, fGt_t, fGt_f, fGe_t, fGe_f, fEq_t, fEq_f, fNe_t, fNe_f, fNot_b, Bool.not_true, Bool.not_false, fIsi_ap, isAdr_i, isAdr_b, isAdr_s, isAdr_l, isAdr_t, isAdr_n, isAdr_c, isK_inti, isK_intb, isK_ints, isK_intl, isK_intt, isK_intn, isK_booli, isK_boolb, isK_bools, isK_booll, isK_boolt, isK_booln, isK_stri, isK_strb, isK_strs, isK_strl, isK_strt, isK_strn, isK_listi, isK_listb, isK_lists, isK_listl, isK_listt, isK_listn, isK_tuplei, isK_tupleb, isK_tuples, isK_tuplel, isK_tuplet, isK_tuplen, isK_listscr, fMax_i, fMin_i, fIsN_n, fIsN_i, fIdx_0, fIdx_1, fIdx_2, fIdx_3, fIdx_4, fIdx_5, fIdx_6, fIdxT_0, fIdxT_1, fIdxT_2, fIdxT_3, fLen_l, fLen_t, fLen_s, fSl_l, fSl_s, fItL_l, fItL_s, fItT_t, mIter_ap, itK_v, mIt1_ap, it1K_v, fRng_1, fRng_2, mFor_t, mFor_f, forK_v, mLc_ap, lcK_v, lcK_e, mAppMv_ap, app1_l, mParN_ap, parK_v, mAsgTz_f, mAsgTz_t, tzK_2, mMut_ap, mutK_0, mut0_appS, mut0_appLa, mut0_ext, mut0_clr, mut0_clrLa, mAsgT_f, mAsgT_t, tK_2, vw_t, vw_f, mFrz_ap, frz_ap, frzK_s, frzK_n, finR_r, finR_nn, finR_nz, List.nil_append, finR_e, Fr.fz, look, dOf_nil, dOf_c, hOf_nil, hOf_c, hid, Option.map_some, Option.map_none, List.set_cons_zero, List.set_cons_succ, List.getElem?_cons_zero, List.getElem?_cons_succ, List.length_map, wipeE, mPut_ap, putK_0, put0_l, put0_la, Int.toNat_natCast, mutK_p, mutI_s, mutP_s, mutQ_app, mutQ_clr, putK_p, putI_s, putP_s, putQ_ok, mSnoc_k, snocK_0, snocK_1, snocK_2, intsD_n, intsD_c, consO_s, dig_n, dig_l, dig_t, digK_s, digF_n, digF_l, digF_t, digFK_s, atI_0, atI_1, atI_2, atI_m1, bury_n, bury_t0, bury_t1, bury_t2, bury_l0, bury_l1, e1, e2, decide_eq_false c1, c2, decide_true, e3, if_true, if_false, Bool.false_eq_true]
    · simp (disch := first | omega | (simp only [List.length_cons, List.length_nil, List.length_map, List.length_set, List.length_append, List.length_replicate, Nat.zero_add, Nat.reduceAdd] <;> omega) | (simp only [noL, noLs, Bool.and_true, Bool.true_and, noLs_ints]; done) | (refine id ?_; with_unfolding_all rfl)) only [runF_ap, ini, List.replicate_succ, List.replicate_zero, List.length_cons, List.length_nil, List.length_set, Nat.reduceAdd, Nat.reduceSub, Nat.reduceLT, Nat.reduceLeDiff, Nat.zero_add, mIf_ap, brS_t, brS_f, brS_e, mSeq_ap, bindS_n, bindS_r, bindS_b, bindS_c, bindS_e, onE_v, onE_e, asgK_ok, mAsg_t, mAsg_f, mRet_ap, mExpr_t, mExpr_f, mRaise_ap, mNext_ap, mRetN_ap, mPass, mBrk, mCont, mRetV_ap, retK_s, mVar_ap, varK_s, mC_ap, bindE_v, bindE_e, m2_ap, b2_vv, b2_ve, b2_e, m1_ap, mN_ap, nK_i, nK_b, nK_n, nK_s, nK_e, nK_t, noL, noLs, Bool.and_true, Bool.true_and, mLN_ap, lnK_ok, mCons_ap, consA_v, consA_e, consA_ve, mNil_ap, mCall_ap, callK_v, callK_e, mTup_ap, mLst_ap, tupK_v, lstK_v, tupK_e, lstK_e, mAnd_ap, mOr_ap, andK_t, andK_f, orK_t, orK_f, andK_e, orK_e, mIfE_ap, ifK_t, ifK_f, mChain_ap, ch2_v, chK_t, chK_f, mSl_ap, slK_ii, slK_ni, slK_in, slK_nn, mInt_ap, intK_i, fAdd_i, fSub_i, fMul_l, fMul_r, fMod_i, fDiv_i, fPow_18, fPow_20, fPow_3, fShl_i, Int.one_mul, fNeg_i, fLt_t, fLt_f, fLe_t, fLe_f, fGt_t, fGt_f, fGe_t, fGe_f, fEq_t, fEq_f, fNe_t, fNe_f, fNot_b, Bool.not_true, Bool.not_false, fIsi_ap, isAdr_i, isAdr_b, isAdr_s, isAdr_l, isAdr_t, isAdr_n, isAdr_c, isK_inti, isK_intb, isK_ints, isK_intl, isK_intt, isK_intn, isK_booli, isK_boolb, isK_bools, isK_booll, isK_boolt, isK_booln, isK_stri, isK_strb, isK_strs, isK_strl, isK_strt, isK_strn, isK_listi, isK_listb, isK_lists, isK_listl, isK_listt, isK_listn, isK_tuplei, isK_tupleb, isK_tuples, isK_tuplel, isK_tuplet, isK_tuplen, isK_listscr, fMax_i, fMin_i, fIsN_n, fIsN_i, fIdx_0, fIdx_1, fIdx_2, fIdx_3, fIdx_4, fIdx_5, fIdx_6, fIdxT_0, fIdxT_1, fIdxT_2, fIdxT_3, fLen_l, fLen_t, fLen_s, fSl_l, fSl_s, fItL_l, fItL_s, fItT_t, mIter_ap, itK_v, mIt1_ap, it1K_v, fRng_1, fRng_2, mFor_t, mFor_f, forK_v, mLc_ap, lcK_v, lcK_e, mAppMv_ap, app1_l, mParN_ap, parK_v, mAsgTz_f, mAsgTz_t, tzK_2, mMut_ap, mutK_0, mut0_appS, mut0_appLa, mut0_ext, mut0_clr, mut0_clrLa, mAsgT_f, mAsgT_t, tK_2, vw_t, vw_f, mFrz_ap, frz_ap, frzK_s, frzK_n, finR_r, finR_nn, finR_nz, List.nil_append, finR_e, Fr.fz, look, dOf_nil, dOf_c, hOf_nil, hOf_c, hid, Option.map_some, Option.map_none, List.set_cons_zero, List.set_cons_succ, List.getElem?_cons_zero, List.getElem?_cons_succ, List.length_map, wipeE, mPut_ap, putK_0, put0_l, put0_la, Int.toNat_natCast, mutK_p, mutI_s, mutP_s, mutQ_app, mutQ_clr, putK_p, putI_s, putP_s, putQ_ok, mSnoc_k, snocK_0, snocK_1, snocK_2, intsD_n, intsD_c, consO_s, dig_n, dig_l, dig_t, digK_s, digF_n, digF_l, digF_t, digFK_s, atI_0, atI_1, atI_2, atI_m1, bury_n, bury_t0, bury_t1, bury_t2, bury_l0, bury_l1, e1, e2, decide_eq_false c1, decide_eq_false c2, e3, if_false, Bool.false_eq_true]
theorem joined_bk (xs ys : List Bool) : m_joined [bk xs, bk ys] = .val (bk (xs ++ ys)) := by
  unfold bk
  rw [joined_ok, ah_app, bh_app, lg_app, List.length_append]
  have h1 := ah_le xs
  have h2 := bh_le ys
  have e1 : jA (xs.length : Int) (ah xs : Int) (ah ys : Int) = ((if ah xs = xs.length then xs.length + ah ys else ah xs : Nat) : Int) := by
    unfold jA
    by_cases c : ah xs = xs.length
    · rw [if_pos c, if_pos (by simp [c])]; omega
    · rw [if_neg c, if_neg (by simp; omega)]
  have e2 : jA (ys.length : Int) (bh ys : Int) (bh xs : Int) = ((if bh ys = ys.length then ys.length + bh xs else bh ys : Nat) : Int) := by
    unfold jA
    by_cases c : bh ys = ys.length
    · rw [if_pos c, if_pos (by simp [c])]; omega
    · rw [if_neg c, if_neg (by simp; omega)]
  have e3 : max (max (lg xs : Int) (lg ys : Int)) ((bh xs : Int) + (ah ys : Int)) = ((max (max (lg xs) (lg ys)) (bh xs + ah ys) : Nat) : Int) := by omega
  rw [e1, e2, e3]
  simp
theorem all_joined_ok (bss : List (List Bool)) : m_all_joined [.lst (bss.map bk)] = .val (bk bss.flatten) := by
  have hput : fItL (.lst (bss.map bk)) = .items (bss.map bk) := rfl
  let Z : OS → Prop := fun o => ∃ r k, o = .next [some (.z, .lst (bss.map bk)), some (r, bk bss.flatten), k]
  let I : Nat → Env → Prop := fun i e => ∃ r k, e = [some (.z, .lst (bss.map bk)), some (r, bk (bss.take i).flatten), k]
  have key : Z (mLoop (.nm 2) l1_all_joined (bss.map bk) [some (.z, .lst (bss.map bk)), some (.t [.n, .n, .n, .n], t4 0 0 0 0), none]) := by
    refine loop_run Z I ⟨_, _, rfl⟩ ?_ ?_
    · rintro i hi e ⟨r, k, rfl⟩
      have hi2 : i < bss.length := by simpa using hi
      rw [List.getElem_map]
      refine ⟨_, rfl, ?_⟩
      have hj := joined_bk (bss.take i).flatten bss[i]
      unfold l1_all_joined
      simp (disch := first | omega | (simp only [List.length_cons, List.length_nil, List.length_map, List.length_set, List.length_append, List.length_replicate, Nat.zero_add, Nat.reduceAdd] <;> omega) | (simp only [noL, noLs, Bool.and_true, Bool.true_and, noLs_ints]; done) | (refine id ?_; with_unfolding_all rfl)) only [runF_ap, ini, List.replicate_succ, List.replicate_zero, List.length_cons, List.length_nil, List.length_set, Nat.reduceAdd, Nat.reduceSub, Nat.reduceLT, Nat.reduceLeDiff, Nat.zero_add, mIf_ap, brS_t, brS_f, brS_e, mSeq_ap, bindS_n, bindS_r, bindS_b, bindS_c, bindS_e, onE_v, onE_e, asgK_ok, mAsg_t, mAsg_f, mRet_ap, mExpr_t, mExpr_f, mRaise_ap, mNext_ap, mRetN_ap, mPass, mBrk, mCont, mRetV_ap, retK_s, mVar_ap, varK_s, mC_ap, bindE_v, bindE_e, m2_ap, b2_vv, b2_ve, b2_e, m1_ap, mN_ap, nK_i, nK_b, nK_n, nK_s, nK_e, nK_t, noL, noLs, Bool.and_true, Bool.true_and, mLN_ap, lnK_ok, mCons_ap, consA_v, consA_e, consA_ve, mNil_ap, mCall_ap, callK_v, callK_e, mTup_ap, mLst_ap, tupK_v, lstK_v, tupK_e, lstK_e, mAnd_ap, mOr_ap, andK_t, andK_f, orK_t, orK_f, andK_e, orK_e, mIfE_ap, ifK_t, ifK_f, mChain_ap, ch2_v, chK_t, chK_f, mSl_ap, slK_ii, slK_ni, slK_in, slK_nn, mInt_ap, intK_i, fAdd_i, fSub_i, fMul_l, fMul_r, fMod_i, fDiv_i, fPow_18, fPow_20, fPow_3, fShl_i, Int.one_mul, fNeg_i, fLt_t, fLt_f, fLe_t, fLe_f, fGt_t, fGt_f, fGe_t, fGe_f, fEq_t, fEq_f, fNe_t, fNe_f, fNot_b, Bool.not_true, Bool.not_false, fIsi_ap, isAdr_i, isAdr_b, isAdr_s, isAdr_l, isAdr_t, isAdr_n, isAdr_c, isK_inti, isK_intb, isK_ints, isK_intl, isK_intt, isK_intn, isK_booli, isK_boolb, isK_bools, isK_booll, isK_boolt, isK_booln, isK_stri, isK_strb, isK_strs, isK_strl, isK_strt, isK_strn, isK_listi, isK_listb, isK_lists, isK_listl, isK_listt, isK_listn, isK_tuplei, isK_tupleb, isK_tuples, isK_tuplel, isK_tuplet, isK_tuplen, isK_listscr, fMax_i, fMin_i, fIsN_n, fIsN_i, fIdx_0, fIdx_1, fIdx_2, fIdx_3, fIdx_4, fIdx_5, fIdx_6, fIdxT_0, fIdxT_1, fIdxT_2, fIdxT_3, fLen_l, fLen_t, fLen_s, fSl_l, fSl_s, fItL_l, fItL_s, fItT_t, mIter_ap, itK_v, mIt1_ap, it1K_v, fRng_1, fRng_2, mFor_t, mFor_f, forK_v, mLc_ap, lcK_v, lcK_e, mAppMv_ap, app1_l, mParN_ap, parK_v, mAsgTz_f, mAsgTz_t, tzK_2, mMut_ap, mutK_0, mut0_appS, mut0_appLa, mut0_ext, mut0_clr, mut0_clrLa, mAsgT_f, mAsgT_t, tK_2, vw_t, vw_f, mFrz_ap, frz_ap, frzK_s, frzK_n, finR_r, finR_nn, finR_nz, List.nil_append, finR_e, Fr.fz, look, dOf_nil, dOf_c, hOf_nil, hOf_c, hid, Option.map_some, Option.map_none, List.set_cons_zero, List.set_cons_succ, List.getElem?_cons_zero, List.getElem?_cons_succ, List.length_map, wipeE, mPut_ap, putK_0, put0_l, put0_la, Int.toNat_natCast, mutK_p, mutI_s, mutP_s, mutQ_app, mutQ_clr, putK_p, putI_s, putP_s, putQ_ok, mSnoc_k, snocK_0, snocK_1, snocK_2, intsD_n, intsD_c, consO_s, dig_n, dig_l, dig_t, digK_s, digF_n, digF_l, digF_t, digFK_s, atI_0, atI_1, atI_2, atI_m1, bury_n, bury_t0, bury_t1, bury_t2, bury_l0, bury_l1, hj]
      refine ⟨.n, some (.z, bk bss[i]), ?_⟩
      rw [List.take_succ_eq_append_getElem hi2, List.flatten_append]
      simp
    · rintro e ⟨r, k, rfl⟩
      refine ⟨r, k, ?_⟩
      simp
  obtain ⟨r, k, key⟩ := key
  unfold t4 at key
  have hn : noL (bk bss.flatten) = true := rfl
  unfold m_all_joined b_all_joined
  simp (disch := first | omega | (simp only [List.length_cons, List.length_nil, List.length_map, List.length_set, List.length_append, List.length_replicate, Nat.zero_add, Nat.reduceAdd] <;> omega) | (simp only [noL, noLs, Bool.and_true, Bool.true_and, noLs_ints]; done) | (refine id ?_; with_unfolding_all rfl)) only [runF_ap, ini, List.replicate_succ, List.replicate_zero, List.length_cons, List.length_nil, List.length_set, Nat.reduceAdd, Nat.reduceSub, Nat.reduceLT, Nat.reduceLeDiff, Nat.zero_add, mIf_ap, brS_t, brS_f, brS_e, mSeq_ap, bindS_n, bindS_r, bindS_b, bindS_c, bindS_e, onE_v, onE_e, asgK_ok, mAsg_t, mAsg_f, mRet_ap, mExpr_t, mExpr_f, mRaise_ap, mNext_ap, mRetN_ap, mPass, mBrk, mCont, mRetV_ap, retK_s, mVar_ap, varK_s, mC_ap, bindE_v, bindE_e, m2_ap, b2_vv, b2_ve, b2_e, m1_ap, mN_ap, nK_i, nK_b, nK_n, nK_s, nK_e, nK_t, noL, noLs, Bool.and_true, Bool.true_and, mLN_ap, lnK_ok, mCons_ap, consA_v, consA_e, consA_ve, mNil_ap, mCall_ap, callK_v, callK_e, mTup_ap, mLst_ap, tupK_v, lstK_v, tupK_e, lstK_e, mAnd_ap, mOr_ap, andK_t, andK_f, orK_t, orK_f, andK_e, orK_e, mIfE_ap, ifK_t, ifK_f, mChain_ap, ch2_v, chK_t, chK_f, mSl_ap, slK_ii, slK_ni, slK_in, slK_nn, mInt_ap, intK_i, fAdd_i, fSub_i, fMul_l, fMul_r, fMod_i, fDiv_i, fPow_18, fPow_20, fPow_3, fShl_i, Int.one_mul, fNeg_i, fLt_t, fLt_f, fLe_t, fLe_f, fGt_t, fGt_f, fGe_t, fGe_f, fEq_t, fEq_f, fNe_t, fNe_f, fNot_b, Bool.not_true, Bool.not_false, fIsi_ap, isAdr_i, isAdr_b, isAdr_s, isAdr_l, isAdr_t, isAdr_n, isAdr_c, isK_inti, isK_intb, isK_ints, isK_intl, isK_intt, isK_intn, isK_booli, isK_boolb, isK_bools, isK_booll, isK_boolt, isK_booln, isK_stri, isK_strb, isK_strs, isK_strl, isK_strt, isK_strn, isK_listi, isK_listb, isK_lists, isK_listl, isK_listt, isK_listn, isK_tuplei, isK_tupleb, isK_tuples, isK_tuplel, isK_tuplet, isK_tuplen, isK_listscr, fMax_i, fMin_i, fIsN_n, fIsN_i, fIdx_0, fIdx_1, fIdx_2, fIdx_3, fIdx_4, fIdx_5, fIdx_6, fIdxT_0, fIdxT_1, fIdxT_2, fIdxT_3, fLen_l, fLen_t, fLen_s, fSl_l, fSl_s, fItL_l, fItL_s, fItT_t, mIter_ap, itK_v, mIt1_ap, it1K_v, fRng_1, fRng_2, mFor_t, mFor_f, forK_v, mLc_ap, lcK_v, lcK_e, mAppMv_ap, app1_l, mParN_ap, parK_v, mAsgTz_f, mAsgTz_t, tzK_2, mMut_ap, mutK_0, mut0_appS, mut0_appLa, mut0_ext, mut0_clr, mut0_clrLa, mAsgT_f, mAsgT_t, tK_2, vw_t, vw_f, mFrz_ap, frz_ap, frzK_s, frzK_n, finR_r, finR_nn, finR_nz, List.nil_append, finR_e, Fr.fz, look, dOf_nil, dOf_c, hOf_nil, hOf_c, hid, Option.map_some, Option.map_none, List.set_cons_zero, List.set_cons_succ, List.getElem?_cons_zero, List.getElem?_cons_succ, List.length_map, wipeE, mPut_ap, putK_0, put0_l, put0_la, Int.toNat_natCast, mutK_p, mutI_s, mutP_s, mutQ_app, mutQ_clr, putK_p, putI_s, putP_s, putQ_ok, mSnoc_k, snocK_0, snocK_1, snocK_2, intsD_n, intsD_c, consO_s, dig_n, dig_l, dig_t, digK_s, digF_n, digF_l, digF_t, digFK_s, atI_0, atI_1, atI_2, atI_m1, bury_n, bury_t0, bury_t1, bury_t2, bury_l0, bury_l1, hput, key, nK_ok hn]
theorem page_block_ok (b : Bool) : m_page_block [.bl b] = .val (bk [b]) := by
  unfold m_page_block b_page_block bk t4
  simp (disch := first | omega | (simp only [List.length_cons, List.length_nil, List.length_map, List.length_set, List.length_append, List.length_replicate, Nat.zero_add, Nat.reduceAdd] <;> omega) | (simp only [noL, noLs, Bool.and_true, Bool.true_and, noLs_ints]; done) | (refine id ?_; with_unfolding_all rfl)) only [runF_ap, ini, List.replicate_succ, List.replicate_zero, List.length_cons, List.length_nil, List.length_set, Nat.reduceAdd, Nat.reduceSub, Nat.reduceLT, Nat.reduceLeDiff, Nat.zero_add, mIf_ap, brS_t, brS_f, brS_e, mSeq_ap, bindS_n, bindS_r, bindS_b, bindS_c, bindS_e, onE_v, onE_e, asgK_ok, mAsg_t, mAsg_f, mRet_ap, mExpr_t, mExpr_f, mRaise_ap, mNext_ap, mRetN_ap, mPass, mBrk, mCont, mRetV_ap, retK_s, mVar_ap, varK_s, mC_ap, bindE_v, bindE_e, m2_ap, b2_vv, b2_ve, b2_e, m1_ap, mN_ap, nK_i, nK_b, nK_n, nK_s, nK_e, nK_t, noL, noLs, Bool.and_true, Bool.true_and, mLN_ap, lnK_ok, mCons_ap, consA_v, consA_e, consA_ve, mNil_ap, mCall_ap, callK_v, callK_e, mTup_ap, mLst_ap, tupK_v, lstK_v, tupK_e, lstK_e, mAnd_ap, mOr_ap, andK_t, andK_f, orK_t, orK_f, andK_e, orK_e, mIfE_ap, ifK_t, ifK_f, mChain_ap, ch2_v, chK_t, chK_f, mSl_ap, slK_ii, slK_ni, slK_in, slK_nn, mInt_ap, intK_i, fAdd_i, fSub_i, fMul_l, fMul_r, fMod_i, fDiv_i, fPow_18, fPow_20, fPow_3, fShl_i, Int.one_mul, fNeg_i, fLt_t, fLt_f, fLe_t, fLe_f, fGt_t, fGt_f, fGe_t, fGe_f, fEq_t, fEq_f, fNe_t, fNe_f, fNot_b, Bool.not_true, Bool.not_false, fIsi_ap, isAdr_i, isAdr_b, isAdr_s, isAdr_l, isAdr_t, isAdr_n, isAdr_c, isK_inti, isK_intb, isK_ints, isK_intl, isK_intt, isK_intn, isK_booli, isK_boolb, isK_bools, isK_booll, isK_boolt, isK_booln, isK_stri, isK_strb, isK_strs, isK_strl, isK_strt, isK_strn, isK_listi, isK_listb, isK_lists, isK_listl, isK_listt, isK_listn, isK_tuplei, isK_tupleb, isK_tuples, isK_tuplel, isK_tuplet, isK_tuplen, isK_listscr, fMax_i, fMin_i, fIsN_n, fIsN_i, fIdx_0, fIdx_1, fIdx_2, fIdx_3, fIdx_4, fIdx_5, fIdx_6, fIdxT_0, fIdxT_1, fIdxT_2, fIdxT_3, fLen_l, fLen_t, fLen_s, fSl_l, fSl_s, fItL_l, fItL_s, fItT_t, mIter_ap, itK_v, mIt1_ap, it1K_v, fRng_1, fRng_2, mFor_t, mFor_f, forK_v, mLc_ap, lcK_v, lcK_e, mAppMv_ap, app1_l, mParN_ap, parK_v, mAsgTz_f, mAsgTz_t, tzK_2, mMut_ap, mutK_0, mut0_appS, mut0_appLa, mut0_ext, mut0_clr, mut0_clrLa, mAsgT_f, mAsgT_t, tK_2, vw_t, vw_f, mFrz_ap, frz_ap, frzK_s, frzK_n, finR_r, finR_nn, finR_nz, List.nil_append, finR_e, Fr.fz, look, dOf_nil, dOf_c, hOf_nil, hOf_c, hid, Option.map_some, Option.map_none, List.set_cons_zero, List.set_cons_succ, List.getElem?_cons_zero, List.getElem?_cons_succ, List.length_map, wipeE, mPut_ap, putK_0, put0_l, put0_la, Int.toNat_natCast, mutK_p, mutI_s, mutP_s, mutQ_app, mutQ_clr, putK_p, putI_s, putP_s, putQ_ok, mSnoc_k, snocK_0, snocK_1, snocK_2, intsD_n, intsD_c, consO_s, dig_n, dig_l, dig_t, digK_s, digF_n, digF_l, digF_t, digFK_s, atI_0, atI_1, atI_2, atI_m1, bury_n, bury_t0, bury_t1, bury_t2, bury_l0, bury_l1, fInt_b]
  cases b <;> rfl
theorem lwh_ok (i : Int) : m__law_whole [.int i] = .val (.bl true) := by
  unfold m__law_whole b__law_whole
  simp (disch := first | omega | (simp only [List.length_cons, List.length_nil, List.length_map, List.length_set, List.length_append, List.length_replicate, Nat.zero_add, Nat.reduceAdd] <;> omega) | (simp only [noL, noLs, Bool.and_true, Bool.true_and, noLs_ints]; done) | (refine id ?_; with_unfolding_all rfl)) only [runF_ap, ini, List.replicate_succ, List.replicate_zero, List.length_cons, List.length_nil, List.length_set, Nat.reduceAdd, Nat.reduceSub, Nat.reduceLT, Nat.reduceLeDiff, Nat.zero_add, mIf_ap, brS_t, brS_f, brS_e, mSeq_ap, bindS_n, bindS_r, bindS_b, bindS_c, bindS_e, onE_v, onE_e, asgK_ok, mAsg_t, mAsg_f, mRet_ap, mExpr_t, mExpr_f, mRaise_ap, mNext_ap, mRetN_ap, mPass, mBrk, mCont, mRetV_ap, retK_s, mVar_ap, varK_s, mC_ap, bindE_v, bindE_e, m2_ap, b2_vv, b2_ve, b2_e, m1_ap, mN_ap, nK_i, nK_b, nK_n, nK_s, nK_e, nK_t, noL, noLs, Bool.and_true, Bool.true_and, mLN_ap, lnK_ok, mCons_ap, consA_v, consA_e, consA_ve, mNil_ap, mCall_ap, callK_v, callK_e, mTup_ap, mLst_ap, tupK_v, lstK_v, tupK_e, lstK_e, mAnd_ap, mOr_ap, andK_t, andK_f, orK_t, orK_f, andK_e, orK_e, mIfE_ap, ifK_t, ifK_f, mChain_ap, ch2_v, chK_t, chK_f, mSl_ap, slK_ii, slK_ni, slK_in, slK_nn, mInt_ap, intK_i, fAdd_i, fSub_i, fMul_l, fMul_r, fMod_i, fDiv_i, fPow_18, fPow_20, fPow_3, fShl_i, Int.one_mul, fNeg_i, fLt_t, fLt_f, fLe_t, fLe_f, fGt_t, fGt_f, fGe_t, fGe_f, fEq_t, fEq_f, fNe_t, fNe_f, fNot_b, Bool.not_true, Bool.not_false, fIsi_ap, isAdr_i, isAdr_b, isAdr_s, isAdr_l, isAdr_t, isAdr_n, isAdr_c, isK_inti, isK_intb, isK_ints, isK_intl, isK_intt, isK_intn, isK_booli, isK_boolb, isK_bools, isK_booll, isK_boolt, isK_booln, isK_stri, isK_strb, isK_strs, isK_strl, isK_strt, isK_strn, isK_listi, isK_listb, isK_lists, isK_listl, isK_listt, isK_listn, isK_tuplei, isK_tupleb, isK_tuples, isK_tuplel, isK_tuplet, isK_tuplen, isK_listscr, fMax_i, fMin_i, fIsN_n, fIsN_i, fIdx_0, fIdx_1, fIdx_2, fIdx_3, fIdx_4, fIdx_5, fIdx_6, fIdxT_0, fIdxT_1, fIdxT_2, fIdxT_3, fLen_l, fLen_t, fLen_s, fSl_l, fSl_s, fItL_l, fItL_s, fItT_t, mIter_ap, itK_v, mIt1_ap, it1K_v, fRng_1, fRng_2, mFor_t, mFor_f, forK_v, mLc_ap, lcK_v, lcK_e, mAppMv_ap, app1_l, mParN_ap, parK_v, mAsgTz_f, mAsgTz_t, tzK_2, mMut_ap, mutK_0, mut0_appS, mut0_appLa, mut0_ext, mut0_clr, mut0_clrLa, mAsgT_f, mAsgT_t, tK_2, vw_t, vw_f, mFrz_ap, frz_ap, frzK_s, frzK_n, finR_r, finR_nn, finR_nz, List.nil_append, finR_e, Fr.fz, look, dOf_nil, dOf_c, hOf_nil, hOf_c, hid, Option.map_some, Option.map_none, List.set_cons_zero, List.set_cons_succ, List.getElem?_cons_zero, List.getElem?_cons_succ, List.length_map, wipeE, mPut_ap, putK_0, put0_l, put0_la, Int.toNat_natCast, mutK_p, mutI_s, mutP_s, mutQ_app, mutQ_clr, putK_p, putI_s, putP_s, putQ_ok, mSnoc_k, snocK_0, snocK_1, snocK_2, intsD_n, intsD_c, consO_s, dig_n, dig_l, dig_t, digK_s, digF_n, digF_l, digF_t, digFK_s, atI_0, atI_1, atI_2, atI_m1, bury_n, bury_t0, bury_t1, bury_t2, bury_l0, bury_l1]
theorem fNe_t4 {a b c d : Int} : fNe (t4 a b c d) (t4 a b c d) = .val (.bl false) := fNe_refl okP_t4
theorem is_block_ok (a b c d : Int) : m__law_is_block [t4 a b c d, t4 a b c d] = .val (.bl true) := by
  have e1 := @fNe_t4 a b c d
  have e2 : isKd .tuple (t4 a b c d) = true := rfl
  have e3 : isAdr (t4 a b c d) = false := rfl
  have e4 : fLen [t4 a b c d] = .val (.int 4) := rfl
  have e5 : fItT (t4 a b c d) = .items [.int a, .int b, .int c, .int d] := rfl
  have hlc := @lc_map (.nm 2) (mCall m__law_whole (mCons (mVar 2) mNil)) [some (t4 a b c d), some (t4 a b c d), none] (fun _ => .bl true) [.int a, .int b, .int c, .int d] (fun x hx => by
    refine ⟨_, rfl, ?_⟩
    have : ∃ i, x = .int i := by
      simp only [List.mem_cons, List.not_mem_nil, or_false] at hx
      rcases hx with rfl | rfl | rfl | rfl <;> exact ⟨_, rfl⟩
    obtain ⟨i, rfl⟩ := this
    have := lwh_ok i
    simp (disch := first | omega | (simp only [List.length_cons, List.length_nil, List.length_map, List.length_set, List.length_append, List.length_replicate, Nat.zero_add, Nat.reduceAdd] <;> omega) | (simp only [noL, noLs, Bool.and_true, Bool.true_and, noLs_ints]; done) | (refine id ?_; with_unfolding_all rfl)) only [runF_ap, ini, List.replicate_succ, List.replicate_zero, List.length_cons, List.length_nil, List.length_set, Nat.reduceAdd, Nat.reduceSub, Nat.reduceLT, Nat.reduceLeDiff, Nat.zero_add, mIf_ap, brS_t, brS_f, brS_e, mSeq_ap, bindS_n, bindS_r, bindS_b, bindS_c, bindS_e, onE_v, onE_e, asgK_ok, mAsg_t, mAsg_f, mRet_ap, mExpr_t, mExpr_f, mRaise_ap, mNext_ap, mRetN_ap, mPass, mBrk, mCont, mRetV_ap, retK_s, mVar_ap, varK_s, mC_ap, bindE_v, bindE_e, m2_ap, b2_vv, b2_ve, b2_e, m1_ap, mN_ap, nK_i, nK_b, nK_n, nK_s, nK_e, nK_t, noL, noLs, Bool.and_true, Bool.true_and, mLN_ap, lnK_ok, mCons_ap, consA_v, consA_e, consA_ve, mNil_ap, mCall_ap, callK_v, callK_e, mTup_ap, mLst_ap, tupK_v, lstK_v, tupK_e, lstK_e, mAnd_ap, mOr_ap, andK_t, andK_f, orK_t, orK_f, andK_e, orK_e, mIfE_ap, ifK_t, ifK_f, mChain_ap, ch2_v, chK_t, chK_f, mSl_ap, slK_ii, slK_ni, slK_in, slK_nn, mInt_ap, intK_i, fAdd_i, fSub_i, fMul_l, fMul_r, fMod_i, fDiv_i, fPow_18, fPow_20, fPow_3, fShl_i, Int.one_mul, fNeg_i, fLt_t, fLt_f, fLe_t, fLe_f, fGt_t, fGt_f, fGe_t, fGe_f, fEq_t, fEq_f, fNe_t, fNe_f, fNot_b, Bool.not_true, Bool.not_false, fIsi_ap, isAdr_i, isAdr_b, isAdr_s, isAdr_l, isAdr_t, isAdr_n, isAdr_c, isK_inti, isK_intb, isK_ints, isK_intl, isK_intt, isK_intn, isK_booli, isK_boolb, isK_bools, isK_booll, isK_boolt, isK_booln, isK_stri, isK_strb, isK_strs, isK_strl, isK_strt, isK_strn, isK_listi, isK_listb, isK_lists, isK_listl, isK_listt, isK_listn, isK_tuplei, isK_tupleb, isK_tuples, isK_tuplel, isK_tuplet, isK_tuplen, isK_listscr, fMax_i, fMin_i, fIsN_n, fIsN_i, fIdx_0, fIdx_1, fIdx_2, fIdx_3, fIdx_4, fIdx_5, fIdx_6, fIdxT_0, fIdxT_1, fIdxT_2, fIdxT_3, fLen_l, fLen_t, fLen_s, fSl_l, fSl_s, fItL_l, fItL_s, fItT_t, mIter_ap, itK_v, mIt1_ap, it1K_v, fRng_1, fRng_2, mFor_t, mFor_f, forK_v, mLc_ap, lcK_v, lcK_e, mAppMv_ap, app1_l, mParN_ap, parK_v, mAsgTz_f, mAsgTz_t, tzK_2, mMut_ap, mutK_0, mut0_appS, mut0_appLa, mut0_ext, mut0_clr, mut0_clrLa, mAsgT_f, mAsgT_t, tK_2, vw_t, vw_f, mFrz_ap, frz_ap, frzK_s, frzK_n, finR_r, finR_nn, finR_nz, List.nil_append, finR_e, Fr.fz, look, dOf_nil, dOf_c, hOf_nil, hOf_c, hid, Option.map_some, Option.map_none, List.set_cons_zero, List.set_cons_succ, List.getElem?_cons_zero, List.getElem?_cons_succ, List.length_map, wipeE, mPut_ap, putK_0, put0_l, put0_la, Int.toNat_natCast, mutK_p, mutI_s, mutP_s, mutQ_app, mutQ_clr, putK_p, putI_s, putP_s, putQ_ok, mSnoc_k, snocK_0, snocK_1, snocK_2, intsD_n, intsD_c, consO_s, dig_n, dig_l, dig_t, digK_s, digF_n, digF_l, digF_t, digFK_s, atI_0, atI_1, atI_2, atI_m1, bury_n, bury_t0, bury_t1, bury_t2, bury_l0, bury_l1, this]) (by simp)
  have e6 : fall [.lst ([D.int a, .int b, .int c, .int d].map fun _ => .bl true)] = .val (.bl true) := rfl
  unfold m__law_is_block b__law_is_block
  simp (disch := first | omega | (simp only [List.length_cons, List.length_nil, List.length_map, List.length_set, List.length_append, List.length_replicate, Nat.zero_add, Nat.reduceAdd] <;> omega) | (simp only [noL, noLs, Bool.and_true, Bool.true_and, noLs_ints]; done) | (refine id ?_; with_unfolding_all rfl)) only [runF_ap, ini, List.replicate_succ, List.replicate_zero, List.length_cons, List.length_nil, List.length_set, Nat.reduceAdd, Nat.reduceSub, Nat.reduceLT, Nat.reduceLeDiff, Nat.zero_add, mIf_ap, brS_t, brS_f, brS_e, mSeq_ap, bindS_n, bindS_r, bindS_b, bindS_c, bindS_e, onE_v, onE_e, asgK_ok, mAsg_t, mAsg_f, mRet_ap, mExpr_t, mExpr_f, mRaise_ap, mNext_ap, mRetN_ap, mPass, mBrk, mCont, mRetV_ap, retK_s, mVar_ap, varK_s, mC_ap, bindE_v, bindE_e, m2_ap, b2_vv, b2_ve, b2_e, m1_ap, mN_ap, nK_i, nK_b, nK_n, nK_s, nK_e, nK_t, noL, noLs, Bool.and_true, Bool.true_and, mLN_ap, lnK_ok, mCons_ap, consA_v, consA_e, consA_ve, mNil_ap, mCall_ap, callK_v, callK_e, mTup_ap, mLst_ap, tupK_v, lstK_v, tupK_e, lstK_e, mAnd_ap, mOr_ap, andK_t, andK_f, orK_t, orK_f, andK_e, orK_e, mIfE_ap, ifK_t, ifK_f, mChain_ap, ch2_v, chK_t, chK_f, mSl_ap, slK_ii, slK_ni, slK_in, slK_nn, mInt_ap, intK_i, fAdd_i, fSub_i, fMul_l, fMul_r, fMod_i, fDiv_i, fPow_18, fPow_20, fPow_3, fShl_i, Int.one_mul, fNeg_i, fLt_t, fLt_f, fLe_t, fLe_f, fGt_t, fGt_f, fGe_t, fGe_f, fEq_t, fEq_f, fNe_t, fNe_f, fNot_b, Bool.not_true, Bool.not_false, fIsi_ap, isAdr_i, isAdr_b, isAdr_s, isAdr_l, isAdr_t, isAdr_n, isAdr_c, isK_inti, isK_intb, isK_ints, isK_intl, isK_intt, isK_intn, isK_booli, isK_boolb, isK_bools, isK_booll, isK_boolt, isK_booln, isK_stri, isK_strb, isK_strs, isK_strl, isK_strt, isK_strn, isK_listi, isK_listb, isK_lists, isK_listl, isK_listt, isK_listn, isK_tuplei, isK_tupleb, isK_tuples, isK_tuplel, isK_tuplet, isK_tuplen, isK_listscr, fMax_i, fMin_i, fIsN_n, fIsN_i, fIdx_0, fIdx_1, fIdx_2, fIdx_3, fIdx_4, fIdx_5, fIdx_6, fIdxT_0, fIdxT_1, fIdxT_2, fIdxT_3, fLen_l, fLen_t, fLen_s, fSl_l, fSl_s, fItL_l, fItL_s, fItT_t, mIter_ap, itK_v, mIt1_ap, it1K_v, fRng_1, fRng_2, mFor_t, mFor_f, forK_v, mLc_ap, lcK_v, lcK_e, mAppMv_ap, app1_l, mParN_ap, parK_v, mAsgTz_f, mAsgTz_t, tzK_2, mMut_ap, mutK_0, mut0_appS, mut0_appLa, mut0_ext, mut0_clr, mut0_clrLa, mAsgT_f, mAsgT_t, tK_2, vw_t, vw_f, mFrz_ap, frz_ap, frzK_s, frzK_n, finR_r, finR_nn, finR_nz, List.nil_append, finR_e, Fr.fz, look, dOf_nil, dOf_c, hOf_nil, hOf_c, hid, Option.map_some, Option.map_none, List.set_cons_zero, List.set_cons_succ, List.getElem?_cons_zero, List.getElem?_cons_succ, List.length_map, wipeE, mPut_ap, putK_0, put0_l, put0_la, Int.toNat_natCast, mutK_p, mutI_s, mutP_s, mutQ_app, mutQ_clr, putK_p, putI_s, putP_s, putQ_ok, mSnoc_k, snocK_0, snocK_1, snocK_2, intsD_n, intsD_c, consO_s, dig_n, dig_l, dig_t, digK_s, digF_n, digF_l, digF_t, digFK_s, atI_0, atI_1, atI_2, atI_m1, bury_n, bury_t0, bury_t1, bury_t2, bury_l0, bury_l1, e1, e2, e3, e4, e5, hlc, e6]
theorem block_ok (bs : List Bool) (hl : bs.length ≤ 900) : m__law_block [bL bs] = .val (bk bs) := by
  have hlen : fLen [bL bs] = .val (.int (bs.length : Int)) := by
    unfold bL
    rw [fLen_l, List.length_map]
  have hit : fItL (bL bs) = .items (bs.map .bl) := rfl
  let Zk1 : OS → Prop := fun o => o = OS.next [some (.z, bL bs), some (.n, .int (ah bs : Int)), none, none, none, none]
  have k1 : Zk1 (mWhile (mAnd (m2 fLt (mVar 1) (mCall fLen (mCons (mVar 0) mNil))) (m2 fIdx (mVar 0) (mVar 1))) l1__law_block 1000 [some (.z, bL bs), some (.n, .int 0), none, none, none, none]) := by
    refine while_run Zk1 (fun m e => ∃ i : Nat, m = bs.length - i ∧ i ≤ ah bs ∧ e = [some (.z, bL bs), some (.n, .int (i : Int)), none, none, none, none]) 1000 bs.length _ (by omega) (by exact ⟨0, rfl, Nat.zero_le _, rfl⟩) ?_
    rintro m e ⟨i, rfl, hi, rfl⟩
    have hle := ah_le bs
    by_cases c : i < ah bs
    · have hx : fIdx (bL bs) (.int (i : Int)) = .val (.bl true) := bL_at (by omega) (by rw [Int.toNat_natCast]; exact take_ah bs i c)
      refine ⟨true, ?_, by simp, fun _ => ?_⟩
      · simp (disch := first | omega | (simp only [List.length_cons, List.length_nil, List.length_map, List.length_set, List.length_append, List.length_replicate, Nat.zero_add, Nat.reduceAdd] <;> omega) | (simp only [noL, noLs, Bool.and_true, Bool.true_and, noLs_ints]; done) | (refine id ?_; with_unfolding_all rfl)) only [runF_ap, ini, List.replicate_succ, List.replicate_zero, List.length_cons, List.length_nil, List.length_set, Nat.reduceAdd, Nat.reduceSub, Nat.reduceLT, Nat.reduceLeDiff, Nat.zero_add, mIf_ap, brS_t, brS_f, brS_e, mSeq_ap, bindS_n, bindS_r, bindS_b, bindS_c, bindS_e, onE_v, onE_e, asgK_ok, mAsg_t, mAsg_f, mRet_ap, mExpr_t, mExpr_f, mRaise_ap, mNext_ap, mRetN_ap, mPass, mBrk, mCont, mRetV_ap, retK_s, mVar_ap, varK_s, mC_ap, bindE_v, bindE_e, m2_ap, b2_vv, b2_ve, b2_e, m1_ap, mN_ap, nK_i, nK_b, nK_n, nK_s, nK_e, nK_t, noL, noLs, Bool.and_true, Bool.true_and, mLN_ap, lnK_ok, mCons_ap, consA_v, consA_e, consA_ve, mNil_ap, mCall_ap, callK_v, callK_e, mTup_ap, mLst_ap, tupK_v, lstK_v, tupK_e, lstK_e, mAnd_ap, mOr_ap, andK_t, andK_f, orK_t, orK_f, andK_e, orK_e, mIfE_ap, ifK_t, ifK_f, mChain_ap, ch2_v, chK_t, chK_f, mSl_ap, slK_ii, slK_ni, slK_in, slK_nn, mInt_ap, intK_i, fAdd_i, fSub_i, fMul_l, fMul_r, fMod_i, fDiv_i, fPow_18, fPow_20, fPow_3, fShl_i, Int.one_mul, fNeg_i, fLt_t, fLt_f, fLe_t, fLe_f, fGt_t, fGt_f, fGe_t, fGe_f, fEq_t, fEq_f, fNe_t, fNe_f, fNot_b, Bool.not_true, Bool.not_false, fIsi_ap, isAdr_i, isAdr_b, isAdr_s, isAdr_l, isAdr_t, isAdr_n, isAdr_c, isK_inti, isK_intb, isK_ints, isK_intl, isK_intt, isK_intn, isK_booli, isK_boolb, isK_bools, isK_booll, isK_boolt, isK_booln, isK_stri, isK_strb, isK_strs, isK_strl, isK_strt, isK_strn, isK_listi, isK_listb, isK_lists, isK_listl, isK_listt, isK_listn, isK_tuplei, isK_tupleb, isK_tuples, isK_tuplel, isK_tuplet, isK_tuplen, isK_listscr, fMax_i, fMin_i, fIsN_n, fIsN_i, fIdx_0, fIdx_1, fIdx_2, fIdx_3, fIdx_4, fIdx_5, fIdx_6, fIdxT_0, fIdxT_1, fIdxT_2, fIdxT_3, fLen_l, fLen_t, fLen_s, fSl_l, fSl_s, fItL_l, fItL_s, fItT_t, mIter_ap, itK_v, mIt1_ap, it1K_v, fRng_1, fRng_2, mFor_t, mFor_f, forK_v, mLc_ap, lcK_v, lcK_e, mAppMv_ap, app1_l, mParN_ap, parK_v, mAsgTz_f, mAsgTz_t, tzK_2, mMut_ap, mutK_0, mut0_appS, mut0_appLa, mut0_ext, mut0_clr, mut0_clrLa, mAsgT_f, mAsgT_t, tK_2, vw_t, vw_f, mFrz_ap, frz_ap, frzK_s, frzK_n, finR_r, finR_nn, finR_nz, List.nil_append, finR_e, Fr.fz, look, dOf_nil, dOf_c, hOf_nil, hOf_c, hid, Option.map_some, Option.map_none, List.set_cons_zero, List.set_cons_succ, List.getElem?_cons_zero, List.getElem?_cons_succ, List.length_map, wipeE, mPut_ap, putK_0, put0_l, put0_la, Int.toNat_natCast, mutK_p, mutI_s, mutP_s, mutQ_app, mutQ_clr, putK_p, putI_s, putP_s, putQ_ok, mSnoc_k, snocK_0, snocK_1, snocK_2, intsD_n, intsD_c, consO_s, dig_n, dig_l, dig_t, digK_s, digF_n, digF_l, digF_t, digFK_s, atI_0, atI_1, atI_2, atI_m1, bury_n, bury_t0, bury_t1, bury_t2, bury_l0, bury_l1, hlen, hx]
      · unfold l1__law_block
        simp (disch := first | omega | (simp only [List.length_cons, List.length_nil, List.length_map, List.length_set, List.length_append, List.length_replicate, Nat.zero_add, Nat.reduceAdd] <;> omega) | (simp only [noL, noLs, Bool.and_true, Bool.true_and, noLs_ints]; done) | (refine id ?_; with_unfolding_all rfl)) only [runF_ap, ini, List.replicate_succ, List.replicate_zero, List.length_cons, List.length_nil, List.length_set, Nat.reduceAdd, Nat.reduceSub, Nat.reduceLT, Nat.reduceLeDiff, Nat.zero_add, mIf_ap, brS_t, brS_f, brS_e, mSeq_ap, bindS_n, bindS_r, bindS_b, bindS_c, bindS_e, onE_v, onE_e, asgK_ok, mAsg_t, mAsg_f, mRet_ap, mExpr_t, mExpr_f, mRaise_ap, mNext_ap, mRetN_ap, mPass, mBrk, mCont, mRetV_ap, retK_s, mVar_ap, varK_s, mC_ap, bindE_v, bindE_e, m2_ap, b2_vv, b2_ve, b2_e, m1_ap, mN_ap, nK_i, nK_b, nK_n, nK_s, nK_e, nK_t, noL, noLs, Bool.and_true, Bool.true_and, mLN_ap, lnK_ok, mCons_ap, consA_v, consA_e, consA_ve, mNil_ap, mCall_ap, callK_v, callK_e, mTup_ap, mLst_ap, tupK_v, lstK_v, tupK_e, lstK_e, mAnd_ap, mOr_ap, andK_t, andK_f, orK_t, orK_f, andK_e, orK_e, mIfE_ap, ifK_t, ifK_f, mChain_ap, ch2_v, chK_t, chK_f, mSl_ap, slK_ii, slK_ni, slK_in, slK_nn, mInt_ap, intK_i, fAdd_i, fSub_i, fMul_l, fMul_r, fMod_i, fDiv_i, fPow_18, fPow_20, fPow_3, fShl_i, Int.one_mul, fNeg_i, fLt_t, fLt_f, fLe_t, fLe_f, fGt_t, fGt_f, fGe_t, fGe_f, fEq_t, fEq_f, fNe_t, fNe_f, fNot_b, Bool.not_true, Bool.not_false, fIsi_ap, isAdr_i, isAdr_b, isAdr_s, isAdr_l, isAdr_t, isAdr_n, isAdr_c, isK_inti, isK_intb, isK_ints, isK_intl, isK_intt, isK_intn, isK_booli, isK_boolb, isK_bools, isK_booll, isK_boolt, isK_booln, isK_stri, isK_strb, isK_strs, isK_strl, isK_strt, isK_strn, isK_listi, isK_listb, isK_lists, isK_listl, isK_listt, isK_listn, isK_tuplei, isK_tupleb, isK_tuples, isK_tuplel, isK_tuplet, isK_tuplen, isK_listscr, fMax_i, fMin_i, fIsN_n, fIsN_i, fIdx_0, fIdx_1, fIdx_2, fIdx_3, fIdx_4, fIdx_5, fIdx_6, fIdxT_0, fIdxT_1, fIdxT_2, fIdxT_3, fLen_l, fLen_t, fLen_s, fSl_l, fSl_s, fItL_l, fItL_s, fItT_t, mIter_ap, itK_v, mIt1_ap, it1K_v, fRng_1, fRng_2, mFor_t, mFor_f, forK_v, mLc_ap, lcK_v, lcK_e, mAppMv_ap, app1_l, mParN_ap, parK_v, mAsgTz_f, mAsgTz_t, tzK_2, mMut_ap, mutK_0, mut0_appS, mut0_appLa, mut0_ext, mut0_clr, mut0_clrLa, mAsgT_f, mAsgT_t, tK_2, vw_t, vw_f, mFrz_ap, frz_ap, frzK_s, frzK_n, finR_r, finR_nn, finR_nz, List.nil_append, finR_e, Fr.fz, look, dOf_nil, dOf_c, hOf_nil, hOf_c, hid, Option.map_some, Option.map_none, List.set_cons_zero, List.set_cons_succ, List.getElem?_cons_zero, List.getElem?_cons_succ, List.length_map, wipeE, mPut_ap, putK_0, put0_l, put0_la, Int.toNat_natCast, mutK_p, mutI_s, mutP_s, mutQ_app, mutQ_clr, putK_p, putI_s, putP_s, putQ_ok, mSnoc_k, snocK_0, snocK_1, snocK_2, intsD_n, intsD_c, consO_s, dig_n, dig_l, dig_t, digK_s, digF_n, digF_l, digF_t, digFK_s, atI_0, atI_1, atI_2, atI_m1, bury_n, bury_t0, bury_t1, bury_t2, bury_l0, bury_l1]
        exact ⟨bs.length - (i + 1), by omega, i + 1, rfl, by omega, by simp⟩
    · have e : i = ah bs := by omega
      subst e
      refine ⟨false, ?_, fun _ => rfl, by simp⟩
      by_cases c2 : ah bs < bs.length
      · have hx : fIdx (bL bs) (.int (ah bs : Int)) = .val (.bl false) := bL_at (by omega) (by rw [Int.toNat_natCast]; exact at_ah bs c2)
        simp (disch := first | omega | (simp only [List.length_cons, List.length_nil, List.length_map, List.length_set, List.length_append, List.length_replicate, Nat.zero_add, Nat.reduceAdd] <;> omega) | (simp only [noL, noLs, Bool.and_true, Bool.true_and, noLs_ints]; done) | (refine id ?_; with_unfolding_all rfl)) only [runF_ap, ini, List.replicate_succ, List.replicate_zero, List.length_cons, List.length_nil, List.length_set, Nat.reduceAdd, Nat.reduceSub, Nat.reduceLT, Nat.reduceLeDiff, Nat.zero_add, mIf_ap, brS_t, brS_f, brS_e, mSeq_ap, bindS_n, bindS_r, bindS_b, bindS_c, bindS_e, onE_v, onE_e, asgK_ok, mAsg_t, mAsg_f, mRet_ap, mExpr_t, mExpr_f, mRaise_ap, mNext_ap, mRetN_ap, mPass, mBrk, mCont, mRetV_ap, retK_s, mVar_ap, varK_s, mC_ap, bindE_v, bindE_e, m2_ap, b2_vv, b2_ve, b2_e, m1_ap, mN_ap, nK_i, nK_b, nK_n, nK_s, nK_e, nK_t, noL, noLs, Bool.and_true, Bool.true_and, mLN_ap, lnK_ok, mCons_ap, consA_v, consA_e, consA_ve, mNil_ap, mCall_ap, callK_v, callK_e, mTup_ap, mLst_ap, tupK_v, lstK_v, tupK_e, lstK_e, mAnd_ap, mOr_ap, andK_t, andK_f, orK_t, orK_f, andK_e, orK_e, mIfE_ap, ifK_t, ifK_f, mChain_ap, ch2_v, chK_t, chK_f, mSl_ap, slK_ii, slK_ni, slK_in, slK_nn, mInt_ap, intK_i, fAdd_i, fSub_i, fMul_l, fMul_r, fMod_i, fDiv_i, fPow_18, fPow_20, fPow_3, fShl_i, Int.one_mul, fNeg_i, fLt_t, fLt_f, fLe_t, fLe_f, fGt_t, fGt_f, fGe_t, fGe_f, fEq_t, fEq_f, fNe_t, fNe_f, fNot_b, Bool.not_true, Bool.not_false, fIsi_ap, isAdr_i, isAdr_b, isAdr_s, isAdr_l, isAdr_t, isAdr_n, isAdr_c, isK_inti, isK_intb, isK_ints, isK_intl, isK_intt, isK_intn, isK_booli, isK_boolb, isK_bools, isK_booll, isK_boolt, isK_booln, isK_stri, isK_strb, isK_strs, isK_strl, isK_strt, isK_strn, isK_listi, isK_listb, isK_lists, isK_listl, isK_listt, isK_listn, isK_tuplei, isK_tupleb, isK_tuples, isK_tuplel, isK_tuplet, isK_tuplen, isK_listscr, fMax_i, fMin_i, fIsN_n, fIsN_i, fIdx_0, fIdx_1, fIdx_2, fIdx_3, fIdx_4, fIdx_5, fIdx_6, fIdxT_0, fIdxT_1, fIdxT_2, fIdxT_3, fLen_l, fLen_t, fLen_s, fSl_l, fSl_s, fItL_l, fItL_s, fItT_t, mIter_ap, itK_v, mIt1_ap, it1K_v, fRng_1, fRng_2, mFor_t, mFor_f, forK_v, mLc_ap, lcK_v, lcK_e, mAppMv_ap, app1_l, mParN_ap, parK_v, mAsgTz_f, mAsgTz_t, tzK_2, mMut_ap, mutK_0, mut0_appS, mut0_appLa, mut0_ext, mut0_clr, mut0_clrLa, mAsgT_f, mAsgT_t, tK_2, vw_t, vw_f, mFrz_ap, frz_ap, frzK_s, frzK_n, finR_r, finR_nn, finR_nz, List.nil_append, finR_e, Fr.fz, look, dOf_nil, dOf_c, hOf_nil, hOf_c, hid, Option.map_some, Option.map_none, List.set_cons_zero, List.set_cons_succ, List.getElem?_cons_zero, List.getElem?_cons_succ, List.length_map, wipeE, mPut_ap, putK_0, put0_l, put0_la, Int.toNat_natCast, mutK_p, mutI_s, mutP_s, mutQ_app, mutQ_clr, putK_p, putI_s, putP_s, putQ_ok, mSnoc_k, snocK_0, snocK_1, snocK_2, intsD_n, intsD_c, consO_s, dig_n, dig_l, dig_t, digK_s, digF_n, digF_l, digF_t, digFK_s, atI_0, atI_1, atI_2, atI_m1, bury_n, bury_t0, bury_t1, bury_t2, bury_l0, bury_l1, hlen, hx]
      · simp (disch := first | omega | (simp only [List.length_cons, List.length_nil, List.length_map, List.length_set, List.length_append, List.length_replicate, Nat.zero_add, Nat.reduceAdd] <;> omega) | (simp only [noL, noLs, Bool.and_true, Bool.true_and, noLs_ints]; done) | (refine id ?_; with_unfolding_all rfl)) only [runF_ap, ini, List.replicate_succ, List.replicate_zero, List.length_cons, List.length_nil, List.length_set, Nat.reduceAdd, Nat.reduceSub, Nat.reduceLT, Nat.reduceLeDiff, Nat.zero_add, mIf_ap, brS_t, brS_f, brS_e, mSeq_ap, bindS_n, bindS_r, bindS_b, bindS_c, bindS_e, onE_v, onE_e, asgK_ok, mAsg_t, mAsg_f, mRet_ap, mExpr_t, mExpr_f, mRaise_ap, mNext_ap, mRetN_ap, mPass, mBrk, mCont, mRetV_ap, retK_s, mVar_ap, varK_s, mC_ap, bindE_v, bindE_e, m2_ap, b2_vv, b2_ve, b2_e, m1_ap, mN_ap, nK_i, nK_b, nK_n, nK_s, nK_e, nK_t, noL, noLs, Bool.and_true, Bool.true_and, mLN_ap, lnK_ok, mCons_ap, consA_v, consA_e, consA_ve, mNil_ap, mCall_ap, callK_v, callK_e, mTup_ap, mLst_ap, tupK_v, lstK_v, tupK_e, lstK_e, mAnd_ap, mOr_ap, andK_t, andK_f, orK_t, orK_f, andK_e, orK_e, mIfE_ap, ifK_t, ifK_f, mChain_ap, ch2_v, chK_t, chK_f, mSl_ap, slK_ii, slK_ni, slK_in, slK_nn, mInt_ap, intK_i, fAdd_i, fSub_i, fMul_l, fMul_r, fMod_i, fDiv_i, fPow_18, fPow_20, fPow_3, fShl_i, Int.one_mul, fNeg_i, fLt_t, fLt_f, fLe_t, fLe_f, fGt_t, fGt_f, fGe_t, fGe_f, fEq_t, fEq_f, fNe_t, fNe_f, fNot_b, Bool.not_true, Bool.not_false, fIsi_ap, isAdr_i, isAdr_b, isAdr_s, isAdr_l, isAdr_t, isAdr_n, isAdr_c, isK_inti, isK_intb, isK_ints, isK_intl, isK_intt, isK_intn, isK_booli, isK_boolb, isK_bools, isK_booll, isK_boolt, isK_booln, isK_stri, isK_strb, isK_strs, isK_strl, isK_strt, isK_strn, isK_listi, isK_listb, isK_lists, isK_listl, isK_listt, isK_listn, isK_tuplei, isK_tupleb, isK_tuples, isK_tuplel, isK_tuplet, isK_tuplen, isK_listscr, fMax_i, fMin_i, fIsN_n, fIsN_i, fIdx_0, fIdx_1, fIdx_2, fIdx_3, fIdx_4, fIdx_5, fIdx_6, fIdxT_0, fIdxT_1, fIdxT_2, fIdxT_3, fLen_l, fLen_t, fLen_s, fSl_l, fSl_s, fItL_l, fItL_s, fItT_t, mIter_ap, itK_v, mIt1_ap, it1K_v, fRng_1, fRng_2, mFor_t, mFor_f, forK_v, mLc_ap, lcK_v, lcK_e, mAppMv_ap, app1_l, mParN_ap, parK_v, mAsgTz_f, mAsgTz_t, tzK_2, mMut_ap, mutK_0, mut0_appS, mut0_appLa, mut0_ext, mut0_clr, mut0_clrLa, mAsgT_f, mAsgT_t, tK_2, vw_t, vw_f, mFrz_ap, frz_ap, frzK_s, frzK_n, finR_r, finR_nn, finR_nz, List.nil_append, finR_e, Fr.fz, look, dOf_nil, dOf_c, hOf_nil, hOf_c, hid, Option.map_some, Option.map_none, List.set_cons_zero, List.set_cons_succ, List.getElem?_cons_zero, List.getElem?_cons_succ, List.length_map, wipeE, mPut_ap, putK_0, put0_l, put0_la, Int.toNat_natCast, mutK_p, mutI_s, mutP_s, mutQ_app, mutQ_clr, putK_p, putI_s, putP_s, putQ_ok, mSnoc_k, snocK_0, snocK_1, snocK_2, intsD_n, intsD_c, consO_s, dig_n, dig_l, dig_t, digK_s, digF_n, digF_l, digF_t, digFK_s, atI_0, atI_1, atI_2, atI_m1, bury_n, bury_t0, bury_t1, bury_t2, bury_l0, bury_l1, hlen]
  let Zk2 : OS → Prop := fun o => o = OS.next [some (.z, bL bs), some (.n, .int (ah bs : Int)), some (.n, .int (bh bs : Int)), none, none, none]
  have k2 : Zk2 (mWhile (mAnd (m2 fLt (mVar 2) (mCall fLen (mCons (mVar 0) mNil))) (m2 fIdx (mVar 0) (m2 fSub (m2 fSub (mCall fLen (mCons (mVar 0) mNil)) (mC (.int 1))) (mVar 2)))) l2__law_block 1000 [some (.z, bL bs), some (.n, .int (ah bs : Int)), some (.n, .int 0), none, none, none]) := by
    refine while_run Zk2 (fun m e => ∃ i : Nat, m = bs.length - i ∧ i ≤ bh bs ∧ e = [some (.z, bL bs), some (.n, .int (ah bs : Int)), some (.n, .int (i : Int)), none, none, none]) 1000 bs.length _ (by omega) (by exact ⟨0, rfl, Nat.zero_le _, rfl⟩) ?_
    rintro m e ⟨i, rfl, hi, rfl⟩
    have hle := bh_le bs
    have hrl : bs.reverse.length = bs.length := List.length_reverse
    by_cases c : i < bh bs
    · have hx : fIdx (bL bs) (.int ((bs.length : Int) - 1 - (i : Int))) = .val (.bl true) := bL_at (by omega) (by
        have : ((bs.length : Int) - 1 - (i : Int)).toNat = bs.length - 1 - i := by omega
        rw [this, rev_at (by omega)]
        exact take_ah bs.reverse i c)
      refine ⟨true, ?_, by simp, fun _ => ?_⟩
      · simp (disch := first | omega | (simp only [List.length_cons, List.length_nil, List.length_map, List.length_set, List.length_append, List.length_replicate, Nat.zero_add, Nat.reduceAdd] <;> omega) | (simp only [noL, noLs, Bool.and_true, Bool.true_and, noLs_ints]; done) | (refine id ?_; with_unfolding_all rfl)) only [runF_ap, ini, List.replicate_succ, List.replicate_zero, List.length_cons, List.length_nil, List.length_set, Nat.reduceAdd, Nat.reduceSub, Nat.reduceLT, Nat.reduceLeDiff, Nat.zero_add, mIf_ap, brS_t, brS_f, brS_e, mSeq_ap, bindS_n, bindS_r, bindS_b, bindS_c, bindS_e, onE_v, onE_e, asgK_ok, mAsg_t, mAsg_f, mRet_ap, mExpr_t, mExpr_f, mRaise_ap, mNext_ap, mRetN_ap, mPass, mBrk, mCont, mRetV_ap, retK_s, mVar_ap, varK_s, mC_ap, bindE_v, bindE_e, m2_ap, b2_vv, b2_ve, b2_e, m1_ap, mN_ap, nK_i, nK_b, nK_n, nK_s, nK_e, nK_t, noL, noLs, Bool.and_true, Bool.true_and, mLN_ap, lnK_ok, mCons_ap, consA_v, consA_e, consA_ve, mNil_ap, mCall_ap, callK_v, callK_e, mTup_ap, mLst_ap, tupK_v, lstK_v, tupK_e, lstK_e, mAnd_ap, mOr_ap, andK_t, andK_f, orK_t, orK_f, andK_e, orK_e, mIfE_ap, ifK_t, ifK_f, mChain_ap, ch2_v, chK_t, chK_f, mSl_ap, slK_ii, slK_ni, slK_in, slK_nn, mInt_ap, intK_i, fAdd_i, fSub_i, fMul_l, fMul_r, fMod_i, fDiv_i, fPow_18, fPow_20, fPow_3, fShl_i, Int.one_mul, fNeg_i, fLt_t, fLt_f, fLe_t, fLe_f, fGt_t, fGt_f, fGe_t, fGe_f, fEq_t, fEq_f, fNe_t, fNe_f, fNot_b, Bool.not_true, Bool.not_false, fIsi_ap, isAdr_i, isAdr_b, isAdr_s, isAdr_l, isAdr_t, isAdr_n, isAdr_c, isK_inti, isK_intb, isK_ints, isK_intl, isK_intt, isK_intn, isK_booli, isK_boolb, isK_bools, isK_booll, isK_boolt, isK_booln, isK_stri, isK_strb, isK_strs, isK_strl, isK_strt, isK_strn, isK_listi, isK_listb, isK_lists, isK_listl, isK_listt, isK_listn, isK_tuplei, isK_tupleb, isK_tuples, isK_tuplel, isK_tuplet, isK_tuplen, isK_listscr, fMax_i, fMin_i, fIsN_n, fIsN_i, fIdx_0, fIdx_1, fIdx_2, fIdx_3, fIdx_4, fIdx_5, fIdx_6, fIdxT_0, fIdxT_1, fIdxT_2, fIdxT_3, fLen_l, fLen_t, fLen_s, fSl_l, fSl_s, fItL_l, fItL_s, fItT_t, mIter_ap, itK_v, mIt1_ap, it1K_v, fRng_1, fRng_2, mFor_t, mFor_f, forK_v, mLc_ap, lcK_v, lcK_e, mAppMv_ap, app1_l, mParN_ap, parK_v, mAsgTz_f, mAsgTz_t, tzK_2, mMut_ap, mutK_0, mut0_appS, mut0_appLa, mut0_ext, mut0_clr, mut0_clrLa, mAsgT_f, mAsgT_t, tK_2, vw_t, vw_f, mFrz_ap, frz_ap, frzK_s, frzK_n, finR_r, finR_nn, finR_nz, List.nil_append, finR_e, Fr.fz, look, dOf_nil, dOf_c, hOf_nil, hOf_c, hid, Option.map_some, Option.map_none, List.set_cons_zero, List.set_cons_succ, List.getElem?_cons_zero, List.getElem?_cons_succ, List.length_map, wipeE, mPut_ap, putK_0, put0_l, put0_la, Int.toNat_natCast, mutK_p, mutI_s, mutP_s, mutQ_app, mutQ_clr, putK_p, putI_s, putP_s, putQ_ok, mSnoc_k, snocK_0, snocK_1, snocK_2, intsD_n, intsD_c, consO_s, dig_n, dig_l, dig_t, digK_s, digF_n, digF_l, digF_t, digFK_s, atI_0, atI_1, atI_2, atI_m1, bury_n, bury_t0, bury_t1, bury_t2, bury_l0, bury_l1, hlen, hx]
      · unfold l2__law_block
        simp (disch := first | omega | (simp only [List.length_cons, List.length_nil, List.length_map, List.length_set, List.length_append, List.length_replicate, Nat.zero_add, Nat.reduceAdd] <;> omega) | (simp only [noL, noLs, Bool.and_true, Bool.true_and, noLs_ints]; done) | (refine id ?_; with_unfolding_all rfl)) only [runF_ap, ini, List.replicate_succ, List.replicate_zero, List.length_cons, List.length_nil, List.length_set, Nat.reduceAdd, Nat.reduceSub, Nat.reduceLT, Nat.reduceLeDiff, Nat.zero_add, mIf_ap, brS_t, brS_f, brS_e, mSeq_ap, bindS_n, bindS_r, bindS_b, bindS_c, bindS_e, onE_v, onE_e, asgK_ok, mAsg_t, mAsg_f, mRet_ap, mExpr_t, mExpr_f, mRaise_ap, mNext_ap, mRetN_ap, mPass, mBrk, mCont, mRetV_ap, retK_s, mVar_ap, varK_s, mC_ap, bindE_v, bindE_e, m2_ap, b2_vv, b2_ve, b2_e, m1_ap, mN_ap, nK_i, nK_b, nK_n, nK_s, nK_e, nK_t, noL, noLs, Bool.and_true, Bool.true_and, mLN_ap, lnK_ok, mCons_ap, consA_v, consA_e, consA_ve, mNil_ap, mCall_ap, callK_v, callK_e, mTup_ap, mLst_ap, tupK_v, lstK_v, tupK_e, lstK_e, mAnd_ap, mOr_ap, andK_t, andK_f, orK_t, orK_f, andK_e, orK_e, mIfE_ap, ifK_t, ifK_f, mChain_ap, ch2_v, chK_t, chK_f, mSl_ap, slK_ii, slK_ni, slK_in, slK_nn, mInt_ap, intK_i, fAdd_i, fSub_i, fMul_l, fMul_r, fMod_i, fDiv_i, fPow_18, fPow_20, fPow_3, fShl_i, Int.one_mul, fNeg_i, fLt_t, fLt_f, fLe_t, fLe_f, fGt_t, fGt_f, fGe_t, fGe_f, fEq_t, fEq_f, fNe_t, fNe_f, fNot_b, Bool.not_true, Bool.not_false, fIsi_ap, isAdr_i, isAdr_b, isAdr_s, isAdr_l, isAdr_t, isAdr_n, isAdr_c, isK_inti, isK_intb, isK_ints, isK_intl, isK_intt, isK_intn, isK_booli, isK_boolb, isK_bools, isK_booll, isK_boolt, isK_booln, isK_stri, isK_strb, isK_strs, isK_strl, isK_strt, isK_strn, isK_listi, isK_listb, isK_lists, isK_listl, isK_listt, isK_listn, isK_tuplei, isK_tupleb, isK_tuples, isK_tuplel, isK_tuplet, isK_tuplen, isK_listscr, fMax_i, fMin_i, fIsN_n, fIsN_i, fIdx_0, fIdx_1, fIdx_2, fIdx_3, fIdx_4, fIdx_5, fIdx_6, fIdxT_0, fIdxT_1, fIdxT_2, fIdxT_3, fLen_l, fLen_t, fLen_s, fSl_l, fSl_s, fItL_l, fItL_s, fItT_t, mIter_ap, itK_v, mIt1_ap, it1K_v, fRng_1, fRng_2, mFor_t, mFor_f, forK_v, mLc_ap, lcK_v, lcK_e, mAppMv_ap, app1_l, mParN_ap, parK_v, mAsgTz_f, mAsgTz_t, tzK_2, mMut_ap, mutK_0, mut0_appS, mut0_appLa, mut0_ext, mut0_clr, mut0_clrLa, mAsgT_f, mAsgT_t, tK_2, vw_t, vw_f, mFrz_ap, frz_ap, frzK_s, frzK_n, finR_r, finR_nn, finR_nz, List.nil_append, finR_e, Fr.fz, look, dOf_nil, dOf_c, hOf_nil, hOf_c, hid, Option.map_some, Option.map_none, List.set_cons_zero, List.set_cons_succ, List.getElem?_cons_zero, List.getElem?_cons_succ, List.length_map, wipeE, mPut_ap, putK_0, put0_l, put0_la, Int.toNat_natCast, mutK_p, mutI_s, mutP_s, mutQ_app, mutQ_clr, putK_p, putI_s, putP_s, putQ_ok, mSnoc_k, snocK_0, snocK_1, snocK_2, intsD_n, intsD_c, consO_s, dig_n, dig_l, dig_t, digK_s, digF_n, digF_l, digF_t, digFK_s, atI_0, atI_1, atI_2, atI_m1, bury_n, bury_t0, bury_t1, bury_t2, bury_l0, bury_l1]
        exact ⟨bs.length - (i + 1), by omega, i + 1, rfl, by omega, by simp⟩
    · have e : i = bh bs := by omega
      subst e
      refine ⟨false, ?_, fun _ => rfl, by simp⟩
      by_cases c2 : bh bs < bs.length
      · have hx : fIdx (bL bs) (.int ((bs.length : Int) - 1 - (bh bs : Int))) = .val (.bl false) := bL_at (by omega) (by
          have : ((bs.length : Int) - 1 - (bh bs : Int)).toNat = bs.length - 1 - bh bs := by omega
          rw [this, rev_at (by omega)]
          exact at_ah bs.reverse (by rw [hrl]; exact c2))
        simp (disch := first | omega | (simp only [List.length_cons, List.length_nil, List.length_map, List.length_set, List.length_append, List.length_replicate, Nat.zero_add, Nat.reduceAdd] <;> omega) | (simp only [noL, noLs, Bool.and_true, Bool.true_and, noLs_ints]; done) | (refine id ?_; with_unfolding_all rfl)) only [runF_ap, ini, List.replicate_succ, List.replicate_zero, List.length_cons, List.length_nil, List.length_set, Nat.reduceAdd, Nat.reduceSub, Nat.reduceLT, Nat.reduceLeDiff, Nat.zero_add, mIf_ap, brS_t, brS_f, brS_e, mSeq_ap, bindS_n, bindS_r, bindS_b, bindS_c, bindS_e, onE_v, onE_e, asgK_ok, mAsg_t, mAsg_f, mRet_ap, mExpr_t, mExpr_f, mRaise_ap, mNext_ap, mRetN_ap, mPass, mBrk, mCont, mRetV_ap, retK_s, mVar_ap, varK_s, mC_ap, bindE_v, bindE_e, m2_ap, b2_vv, b2_ve, b2_e, m1_ap, mN_ap, nK_i, nK_b, nK_n, nK_s, nK_e, nK_t, noL, noLs, Bool.and_true, Bool.true_and, mLN_ap, lnK_ok, mCons_ap, consA_v, consA_e, consA_ve, mNil_ap, mCall_ap, callK_v, callK_e, mTup_ap, mLst_ap, tupK_v, lstK_v, tupK_e, lstK_e, mAnd_ap, mOr_ap, andK_t, andK_f, orK_t, orK_f, andK_e, orK_e, mIfE_ap, ifK_t, ifK_f, mChain_ap, ch2_v, chK_t, chK_f, mSl_ap, slK_ii, slK_ni, slK_in, slK_nn, mInt_ap, intK_i, fAdd_i, fSub_i, fMul_l, fMul_r, fMod_i, fDiv_i, fPow_18, fPow_20, fPow_3, fShl_i, Int.one_mul, fNeg_i, fLt_t, fLt_f, fLe_t, fLe_f, fGt_t, fGt_f, fGe_t, fGe_f, fEq_t, fEq_f, fNe_t, fNe_f, fNot_b, Bool.not_true, Bool.not_false, fIsi_ap, isAdr_i, isAdr_b, isAdr_s, isAdr_l, isAdr_t, isAdr_n, isAdr_c, isK_inti, isK_intb, isK_ints, isK_intl, isK_intt, isK_intn, isK_booli, isK_boolb, isK_bools, isK_booll, isK_boolt, isK_booln, isK_stri, isK_strb, isK_strs, isK_strl, isK_strt, isK_strn, isK_listi, isK_listb, isK_lists, isK_listl, isK_listt, isK_listn, isK_tuplei, isK_tupleb, isK_tuples, isK_tuplel, isK_tuplet, isK_tuplen, isK_listscr, fMax_i, fMin_i, fIsN_n, fIsN_i, fIdx_0, fIdx_1, fIdx_2, fIdx_3, fIdx_4, fIdx_5, fIdx_6, fIdxT_0, fIdxT_1, fIdxT_2, fIdxT_3, fLen_l, fLen_t, fLen_s, fSl_l, fSl_s, fItL_l, fItL_s, fItT_t, mIter_ap, itK_v, mIt1_ap, it1K_v, fRng_1, fRng_2, mFor_t, mFor_f, forK_v, mLc_ap, lcK_v, lcK_e, mAppMv_ap, app1_l, mParN_ap, parK_v, mAsgTz_f, mAsgTz_t, tzK_2, mMut_ap, mutK_0, mut0_appS, mut0_appLa, mut0_ext, mut0_clr, mut0_clrLa, mAsgT_f, mAsgT_t, tK_2, vw_t, vw_f, mFrz_ap, frz_ap, frzK_s, frzK_n, finR_r, finR_nn, finR_nz, List.nil_append, finR_e, Fr.fz, look, dOf_nil, dOf_c, hOf_nil, hOf_c, hid, Option.map_some, Option.map_none, List.set_cons_zero, List.set_cons_succ, List.getElem?_cons_zero, List.getElem?_cons_succ, List.length_map, wipeE, mPut_ap, putK_0, put0_l, put0_la, Int.toNat_natCast, mutK_p, mutI_s, mutP_s, mutQ_app, mutQ_clr, putK_p, putI_s, putP_s, putQ_ok, mSnoc_k, snocK_0, snocK_1, snocK_2, intsD_n, intsD_c, consO_s, dig_n, dig_l, dig_t, digK_s, digF_n, digF_l, digF_t, digFK_s, atI_0, atI_1, atI_2, atI_m1, bury_n, bury_t0, bury_t1, bury_t2, bury_l0, bury_l1, hlen, hx]
      · simp (disch := first | omega | (simp only [List.length_cons, List.length_nil, List.length_map, List.length_set, List.length_append, List.length_replicate, Nat.zero_add, Nat.reduceAdd] <;> omega) | (simp only [noL, noLs, Bool.and_true, Bool.true_and, noLs_ints]; done) | (refine id ?_; with_unfolding_all rfl)) only [runF_ap, ini, List.replicate_succ, List.replicate_zero, List.length_cons, List.length_nil, List.length_set, Nat.reduceAdd, Nat.reduceSub, Nat.reduceLT, Nat.reduceLeDiff, Nat.zero_add, mIf_ap, brS_t, brS_f, brS_e, mSeq_ap, bindS_n, bindS_r, bindS_b, bindS_c, bindS_e, onE_v, onE_e, asgK_ok, mAsg_t, mAsg_f, mRet_ap, mExpr_t, mExpr_f, mRaise_ap, mNext_ap, mRetN_ap, mPass, mBrk, mCont, mRetV_ap, retK_s, mVar_ap, varK_s, mC_ap, bindE_v, bindE_e, m2_ap, b2_vv, b2_ve, b2_e, m1_ap, mN_ap, nK_i, nK_b, nK_n, nK_s, nK_e, nK_t, noL, noLs, Bool.and_true, Bool.true_and, mLN_ap, lnK_ok, mCons_ap, consA_v, consA_e, consA_ve, mNil_ap, mCall_ap, callK_v, callK_e, mTup_ap, mLst_ap, tupK_v, lstK_v, tupK_e, lstK_e, mAnd_ap, mOr_ap, andK_t, andK_f, orK_t, orK_f, andK_e, orK_e, mIfE_ap, ifK_t, ifK_f, mChain_ap, ch2_v, chK_t, chK_f, mSl_ap, slK_ii, slK_ni, slK_in, slK_nn, mInt_ap, intK_i, fAdd_i, fSub_i, fMul_l, fMul_r, fMod_i, fDiv_i, fPow_18, fPow_20, fPow_3, fShl_i, Int.one_mul, fNeg_i, fLt_t, fLt_f, fLe_t, fLe_f, fGt_t, fGt_f, fGe_t, fGe_f, fEq_t, fEq_f, fNe_t, fNe_f, fNot_b, Bool.not_true, Bool.not_false, fIsi_ap, isAdr_i, isAdr_b, isAdr_s, isAdr_l, isAdr_t, isAdr_n, isAdr_c, isK_inti, isK_intb, isK_ints, isK_intl, isK_intt, isK_intn, isK_booli, isK_boolb, isK_bools, isK_booll, isK_boolt, isK_booln, isK_stri, isK_strb, isK_strs, isK_strl, isK_strt, isK_strn, isK_listi, isK_listb, isK_lists, isK_listl, isK_listt, isK_listn, isK_tuplei, isK_tupleb, isK_tuples, isK_tuplel, isK_tuplet, isK_tuplen, isK_listscr, fMax_i, fMin_i, fIsN_n, fIsN_i, fIdx_0, fIdx_1, fIdx_2, fIdx_3, fIdx_4, fIdx_5, fIdx_6, fIdxT_0, fIdxT_1, fIdxT_2, fIdxT_3, fLen_l, fLen_t, fLen_s, fSl_l, fSl_s, fItL_l, fItL_s, fItT_t, mIter_ap, itK_v, mIt1_ap, it1K_v, fRng_1, fRng_2, mFor_t, mFor_f, forK_v, mLc_ap, lcK_v, lcK_e, mAppMv_ap, app1_l, mParN_ap, parK_v, mAsgTz_f, mAsgTz_t, tzK_2, mMut_ap, mutK_0, mut0_appS, mut0_appLa, mut0_ext, mut0_clr, mut0_clrLa, mAsgT_f, mAsgT_t, tK_2, vw_t, vw_f, mFrz_ap, frz_ap, frzK_s, frzK_n, finR_r, finR_nn, finR_nz, List.nil_append, finR_e, Fr.fz, look, dOf_nil, dOf_c, hOf_nil, hOf_c, hid, Option.map_some, Option.map_none, List.set_cons_zero, List.set_cons_succ, List.getElem?_cons_zero, List.getElem?_cons_succ, List.length_map, wipeE, mPut_ap, putK_0, put0_l, put0_la, Int.toNat_natCast, mutK_p, mutI_s, mutP_s, mutQ_app, mutQ_clr, putK_p, putI_s, putP_s, putQ_ok, mSnoc_k, snocK_0, snocK_1, snocK_2, intsD_n, intsD_c, consO_s, dig_n, dig_l, dig_t, digK_s, digF_n, digF_l, digF_t, digFK_s, atI_0, atI_1, atI_2, atI_m1, bury_n, bury_t0, bury_t1, bury_t2, bury_l0, bury_l1, hlen]
  let Zk3 : OS → Prop := fun o => ∃ x y, o = OS.next [some (.z, bL bs), some (.n, .int (ah bs : Int)), some (.n, .int (bh bs : Int)), some (.n, .int (lg bs : Int)), x, y]
  have k3 : Zk3 (mLoop (.nm 5) l3__law_block (bs.map .bl) [some (.z, bL bs), some (.n, .int (ah bs : Int)), some (.n, .int (bh bs : Int)), some (.n, .int 0), some (.n, .int 0), none]) := by
    refine loop_run Zk3 (fun i e => ∃ (r : Fr) (h m : Nat) (y : Option (Fr × D)), (r = .n ∨ r = .z) ∧ h ≤ m ∧ lgF h m (bs.drop i) = lg bs ∧ e = [some (.z, bL bs), some (.n, .int (ah bs : Int)), some (.n, .int (bh bs : Int)), some (.n, .int (m : Int)), some (r, .int (h : Int)), y]) (by exact ⟨.n, 0, 0, none, .inl rfl, Nat.le_refl _, by rw [List.drop_zero, lgF_eq bs 0 0 (Nat.le_refl _)]; have := ah_lg bs; omega, rfl⟩) ?_ ?_
    · rintro i hi e ⟨r, h, m, y, hr, hm, hF, rfl⟩
      have hi2 : i < bs.length := by simpa using hi
      rw [List.getElem_map]
      refine ⟨_, rfl, ?_⟩
      rw [List.drop_eq_getElem_cons hi2] at hF
      unfold lgF at hF
      generalize bs[i] = b at hF
      have hx : fIdx (.lst [.int 0, .int ((h : Int) + 1)]) (.int (if b = true then 1 else 0)) = .val (.int ((if b = true then h + 1 else 0 : Nat) : Int)) := by cases b <;> rfl
      have hmx : max (m : Int) ((if b = true then h + 1 else 0 : Nat) : Int) = ((max m (if b = true then h + 1 else 0) : Nat) : Int) := by omega
      unfold l3__law_block
      rcases hr with rfl | rfl
      · simp (disch := first | omega | (simp only [List.length_cons, List.length_nil, List.length_map, List.length_set, List.length_append, List.length_replicate, Nat.zero_add, Nat.reduceAdd] <;> omega) | (simp only [noL, noLs, Bool.and_true, Bool.true_and, noLs_ints]; done) | (refine id ?_; with_unfolding_all rfl)) only [runF_ap, ini, List.replicate_succ, List.replicate_zero, List.length_cons, List.length_nil, List.length_set, Nat.reduceAdd, Nat.reduceSub, Nat.reduceLT, Nat.reduceLeDiff, Nat.zero_add, mIf_ap, brS_t, brS_f, brS_e, mSeq_ap, bindS_n, bindS_r, bindS_b, bindS_c, bindS_e, onE_v, onE_e, asgK_ok, mAsg_t, mAsg_f, mRet_ap, mExpr_t, mExpr_f, mRaise_ap, mNext_ap, mRetN_ap, mPass, mBrk, mCont, mRetV_ap, retK_s, mVar_ap, varK_s, mC_ap, bindE_v, bindE_e, m2_ap, b2_vv, b2_ve, b2_e, m1_ap, mN_ap, nK_i, nK_b, nK_n, nK_s, nK_e, nK_t, noL, noLs, Bool.and_true, Bool.true_and, mLN_ap, lnK_ok, mCons_ap, consA_v, consA_e, consA_ve, mNil_ap, mCall_ap, callK_v, callK_e, mTup_ap, mLst_ap, tupK_v, lstK_v, tupK_e, lstK_e, mAnd_ap, mOr_ap, andK_t, andK_f, orK_t, orK_f, andK_e, orK_e, mIfE_ap, ifK_t, ifK_f, mChain_ap, ch2_v, chK_t, chK_f, mSl_ap, slK_ii, slK_ni, slK_in, slK_nn, mInt_ap, intK_i, fAdd_i, fSub_i, fMul_l, fMul_r, fMod_i, fDiv_i, fPow_18, fPow_20, fPow_3, fShl_i, Int.one_mul, fNeg_i, fLt_t, fLt_f, fLe_t, fLe_f, fGt_t, fGt_f, fGe_t, fGe_f, fEq_t, fEq_f, fNe_t, fNe_f, fNot_b, Bool.not_true, Bool.not_false, fIsi_ap, isAdr_i, isAdr_b, isAdr_s, isAdr_l, isAdr_t, isAdr_n, isAdr_c, isK_inti, isK_intb, isK_ints, isK_intl, isK_intt, isK_intn, isK_booli, isK_boolb, isK_bools, isK_booll, isK_boolt, isK_booln, isK_stri, isK_strb, isK_strs, isK_strl, isK_strt, isK_strn, isK_listi, isK_listb, isK_lists, isK_listl, isK_listt, isK_listn, isK_tuplei, isK_tupleb, isK_tuples, isK_tuplel, isK_tuplet, isK_tuplen, isK_listscr, fMax_i, fMin_i, fIsN_n, fIsN_i, fIdx_0, fIdx_1, fIdx_2, fIdx_3, fIdx_4, fIdx_5, fIdx_6, fIdxT_0, fIdxT_1, fIdxT_2, fIdxT_3, fLen_l, fLen_t, fLen_s, fSl_l, fSl_s, fItL_l, fItL_s, fItT_t, mIter_ap, itK_v, mIt1_ap, it1K_v, fRng_1, fRng_2, mFor_t, mFor_f, forK_v, mLc_ap, lcK_v, lcK_e, mAppMv_ap, app1_l, mParN_ap, parK_v, mAsgTz_f, mAsgTz_t, tzK_2, mMut_ap, mutK_0, mut0_appS, mut0_appLa, mut0_ext, mut0_clr, mut0_clrLa, mAsgT_f, mAsgT_t, tK_2, vw_t, vw_f, mFrz_ap, frz_ap, frzK_s, frzK_n, finR_r, finR_nn, finR_nz, List.nil_append, finR_e, Fr.fz, look, dOf_nil, dOf_c, hOf_nil, hOf_c, hid, Option.map_some, Option.map_none, List.set_cons_zero, List.set_cons_succ, List.getElem?_cons_zero, List.getElem?_cons_succ, List.length_map, wipeE, mPut_ap, putK_0, put0_l, put0_la, Int.toNat_natCast, mutK_p, mutI_s, mutP_s, mutQ_app, mutQ_clr, putK_p, putI_s, putP_s, putQ_ok, mSnoc_k, snocK_0, snocK_1, snocK_2, intsD_n, intsD_c, consO_s, dig_n, dig_l, dig_t, digK_s, digF_n, digF_l, digF_t, digFK_s, atI_0, atI_1, atI_2, atI_m1, bury_n, bury_t0, bury_t1, bury_t2, bury_l0, bury_l1, fInt_b, hx, hmx]
        exact ⟨_, _, _, _, .inr rfl, by omega, hF, rfl⟩
      · simp (disch := first | omega | (simp only [List.length_cons, List.length_nil, List.length_map, List.length_set, List.length_append, List.length_replicate, Nat.zero_add, Nat.reduceAdd] <;> omega) | (simp only [noL, noLs, Bool.and_true, Bool.true_and, noLs_ints]; done) | (refine id ?_; with_unfolding_all rfl)) only [runF_ap, ini, List.replicate_succ, List.replicate_zero, List.length_cons, List.length_nil, List.length_set, Nat.reduceAdd, Nat.reduceSub, Nat.reduceLT, Nat.reduceLeDiff, Nat.zero_add, mIf_ap, brS_t, brS_f, brS_e, mSeq_ap, bindS_n, bindS_r, bindS_b, bindS_c, bindS_e, onE_v, onE_e, asgK_ok, mAsg_t, mAsg_f, mRet_ap, mExpr_t, mExpr_f, mRaise_ap, mNext_ap, mRetN_ap, mPass, mBrk, mCont, mRetV_ap, retK_s, mVar_ap, varK_s, mC_ap, bindE_v, bindE_e, m2_ap, b2_vv, b2_ve, b2_e, m1_ap, mN_ap, nK_i, nK_b, nK_n, nK_s, nK_e, nK_t, noL, noLs, Bool.and_true, Bool.true_and, mLN_ap, lnK_ok, mCons_ap, consA_v, consA_e, consA_ve, mNil_ap, mCall_ap, callK_v, callK_e, mTup_ap, mLst_ap, tupK_v, lstK_v, tupK_e, lstK_e, mAnd_ap, mOr_ap, andK_t, andK_f, orK_t, orK_f, andK_e, orK_e, mIfE_ap, ifK_t, ifK_f, mChain_ap, ch2_v, chK_t, chK_f, mSl_ap, slK_ii, slK_ni, slK_in, slK_nn, mInt_ap, intK_i, fAdd_i, fSub_i, fMul_l, fMul_r, fMod_i, fDiv_i, fPow_18, fPow_20, fPow_3, fShl_i, Int.one_mul, fNeg_i, fLt_t, fLt_f, fLe_t, fLe_f, fGt_t, fGt_f, fGe_t, fGe_f, fEq_t, fEq_f, fNe_t, fNe_f, fNot_b, Bool.not_true, Bool.not_false, fIsi_ap, isAdr_i, isAdr_b, isAdr_s, isAdr_l, isAdr_t, isAdr_n, isAdr_c, isK_inti, isK_intb, isK_ints, isK_intl, isK_intt, isK_intn, isK_booli, isK_boolb, isK_bools, isK_booll, isK_boolt, isK_booln, isK_stri, isK_strb, isK_strs, isK_strl, isK_strt, isK_strn, isK_listi, isK_listb, isK_lists, isK_listl, isK_listt, isK_listn, isK_tuplei, isK_tupleb, isK_tuples, isK_tuplel, isK_tuplet, isK_tuplen, isK_listscr, fMax_i, fMin_i, fIsN_n, fIsN_i, fIdx_0, fIdx_1, fIdx_2, fIdx_3, fIdx_4, fIdx_5, fIdx_6, fIdxT_0, fIdxT_1, fIdxT_2, fIdxT_3, fLen_l, fLen_t, fLen_s, fSl_l, fSl_s, fItL_l, fItL_s, fItT_t, mIter_ap, itK_v, mIt1_ap, it1K_v, fRng_1, fRng_2, mFor_t, mFor_f, forK_v, mLc_ap, lcK_v, lcK_e, mAppMv_ap, app1_l, mParN_ap, parK_v, mAsgTz_f, mAsgTz_t, tzK_2, mMut_ap, mutK_0, mut0_appS, mut0_appLa, mut0_ext, mut0_clr, mut0_clrLa, mAsgT_f, mAsgT_t, tK_2, vw_t, vw_f, mFrz_ap, frz_ap, frzK_s, frzK_n, finR_r, finR_nn, finR_nz, List.nil_append, finR_e, Fr.fz, look, dOf_nil, dOf_c, hOf_nil, hOf_c, hid, Option.map_some, Option.map_none, List.set_cons_zero, List.set_cons_succ, List.getElem?_cons_zero, List.getElem?_cons_succ, List.length_map, wipeE, mPut_ap, putK_0, put0_l, put0_la, Int.toNat_natCast, mutK_p, mutI_s, mutP_s, mutQ_app, mutQ_clr, putK_p, putI_s, putP_s, putQ_ok, mSnoc_k, snocK_0, snocK_1, snocK_2, intsD_n, intsD_c, consO_s, dig_n, dig_l, dig_t, digK_s, digF_n, digF_l, digF_t, digFK_s, atI_0, atI_1, atI_2, atI_m1, bury_n, bury_t0, bury_t1, bury_t2, bury_l0, bury_l1, fInt_b, hx, hmx]
        exact ⟨_, _, _, _, .inr rfl, by omega, hF, rfl⟩
    · rintro e ⟨r, h, m, y, hr, hm, hF, rfl⟩
      simp only [List.length_map, List.drop_length, lgF] at hF
      subst hF
      exact ⟨_, _, rfl⟩
  obtain ⟨x, y, k3⟩ := k3
  change mWhile _ _ _ _ = _ at k1
  change mWhile _ _ _ _ = _ at k2
  unfold m__law_block b__law_block bk t4
  simp (disch := first | omega | (simp only [List.length_cons, List.length_nil, List.length_map, List.length_set, List.length_append, List.length_replicate, Nat.zero_add, Nat.reduceAdd] <;> omega) | (simp only [noL, noLs, Bool.and_true, Bool.true_and, noLs_ints]; done) | (refine id ?_; with_unfolding_all rfl)) only [runF_ap, ini, List.replicate_succ, List.replicate_zero, List.length_cons, List.length_nil, List.length_set, Nat.reduceAdd, Nat.reduceSub, Nat.reduceLT, Nat.reduceLeDiff, Nat.zero_add, mIf_ap, brS_t, brS_f, brS_e, mSeq_ap, bindS_n, bindS_r, bindS_b, bindS_c, bindS_e, onE_v, onE_e, asgK_ok, mAsg_t, mAsg_f, mRet_ap, mExpr_t, mExpr_f, mRaise_ap, mNext_ap, mRetN_ap, mPass, mBrk, mCont, mRetV_ap, retK_s, mVar_ap, varK_s, mC_ap, bindE_v, bindE_e, m2_ap, b2_vv, b2_ve, b2_e, m1_ap, mN_ap, nK_i, nK_b, nK_n, nK_s, nK_e, nK_t, noL, noLs, Bool.and_true, Bool.true_and, mLN_ap, lnK_ok, mCons_ap, consA_v, consA_e, consA_ve, mNil_ap, mCall_ap, callK_v, callK_e, mTup_ap, mLst_ap, tupK_v, lstK_v, tupK_e, lstK_e, mAnd_ap, mOr_ap, andK_t, andK_f, orK_t, orK_f, andK_e, orK_e, mIfE_ap, ifK_t, ifK_f, mChain_ap, ch2_v, chK_t, chK_f, mSl_ap, slK_ii, slK_ni, slK_in, slK_nn, mInt_ap, intK_i, fAdd_i, fSub_i, fMul_l, fMul_r, fMod_i, fDiv_i, fPow_18, fPow_20, fPow_3, fShl_i, Int.one_mul, fNeg_i, fLt_t, fLt_f, fLe_t, fLe_f, fGt_t, fGt_f, fGe_t, fGe_f, fEq_t, fEq_f, fNe_t, fNe_f, fNot_b, Bool.not_true, Bool.not_false, fIsi_ap, isAdr_i, isAdr_b, isAdr_s, isAdr_l, isAdr_t, isAdr_n, isAdr_c, isK_inti, isK_intb, isK_ints, isK_intl, isK_intt, isK_intn, isK_booli, isK_boolb, isK_bools, isK_booll, isK_boolt, isK_booln, isK_stri, isK_strb, isK_strs, isK_strl, isK_strt, isK_strn, isK_listi, isK_listb, isK_lists, isK_listl, isK_listt, isK_listn, isK_tuplei, isK_tupleb, isK_tuples, isK_tuplel, isK_tuplet, isK_tuplen, isK_listscr, fMax_i, fMin_i, fIsN_n, fIsN_i, fIdx_0, fIdx_1, fIdx_2, fIdx_3, fIdx_4, fIdx_5, fIdx_6, fIdxT_0, fIdxT_1, fIdxT_2, fIdxT_3, fLen_l, fLen_t, fLen_s, fSl_l, fSl_s, fItL_l, fItL_s, fItT_t, mIter_ap, itK_v, mIt1_ap, it1K_v, fRng_1, fRng_2, mFor_t, mFor_f, forK_v, mLc_ap, lcK_v, lcK_e, mAppMv_ap, app1_l, mParN_ap, parK_v, mAsgTz_f, mAsgTz_t, tzK_2, mMut_ap, mutK_0, mut0_appS, mut0_appLa, mut0_ext, mut0_clr, mut0_clrLa, mAsgT_f, mAsgT_t, tK_2, vw_t, vw_f, mFrz_ap, frz_ap, frzK_s, frzK_n, finR_r, finR_nn, finR_nz, List.nil_append, finR_e, Fr.fz, look, dOf_nil, dOf_c, hOf_nil, hOf_c, hid, Option.map_some, Option.map_none, List.set_cons_zero, List.set_cons_succ, List.getElem?_cons_zero, List.getElem?_cons_succ, List.length_map, wipeE, mPut_ap, putK_0, put0_l, put0_la, Int.toNat_natCast, mutK_p, mutI_s, mutP_s, mutQ_app, mutQ_clr, putK_p, putI_s, putP_s, putQ_ok, mSnoc_k, snocK_0, snocK_1, snocK_2, intsD_n, intsD_c, consO_s, dig_n, dig_l, dig_t, digK_s, digF_n, digF_l, digF_t, digFK_s, atI_0, atI_1, atI_2, atI_m1, bury_n, bury_t0, bury_t1, bury_t2, bury_l0, bury_l1, k1, k2, hit, k3, hlen]

theorem set_eq_self {α : Type} {l : List α} {i : Nat} {x : α} (h : l[i]? = some x) : l.set i x = l := by
  apply List.ext_getElem?
  intro n
  rw [List.getElem?_set]
  by_cases e : i = n
  · subst e
    rw [if_pos rfl, h]
    have := (List.getElem?_eq_some_iff.mp h).1
    simp [this]
  · rw [if_neg e]
theorem forB_next {i k : Nat} {mb : MS} {env : Env} {r : Fr} (g : List D → List D) (Ds : List (List D)) (hik : i ≠ k) (hk : env[k]? = some none) (h0 : env[i]? = some (some (.l (.l r), .lst (Ds.map D.lst))))
    (hb : ∀ b a, ∀ ds ∈ Ds, mb ((env.set i (some (.z, .adr b))).set k (some (.la a r, .lst ds))) = .next ((env.set i (some (.z, .adr b))).set k (some (.la a r, .lst (g ds))))) : mForB i k mb env = .next (env.set i (some (.l (.l r), .lst ((Ds.map g).map D.lst)))) := by
  have hil := (List.getElem?_eq_some_iff.mp h0).1
  have hkl := (List.getElem?_eq_some_iff.mp hk).1
  have key : ∀ b, ∀ m p, p + m = Ds.length → mFBL i k b r mb p m (env.set i (some (.la b (.l r), .lst (((Ds.take p).map g ++ Ds.drop p).map D.lst)))) = .next (env.set i (some (.la b (.l r), .lst ((Ds.map g).map D.lst)))) := by
    intro b m
    induction m with
    | zero =>
      intro p hp
      have hpl : p = Ds.length := by omega
      subst hpl
      rw [List.take_length, List.drop_length, List.append_nil]
      unfold mFBL
      simp only [List.getElem?_set_self hil]
      rw [if_pos ⟨trivial, frEq_self r, by simp⟩]
    | succ m ih =>
      intro p hp
      have hpl : p < Ds.length := by omega
      unfold mFBL
      simp only [List.getElem?_set_self hil]
      rw [if_pos ⟨trivial, frEq_self r, by rw [List.length_set]; exact hkl, hik, by simp; omega⟩]
      have e1 : (((Ds.take p).map g ++ Ds.drop p).map D.lst)[p]? = some (.lst Ds[p]) := by
        rw [List.getElem?_map, List.getElem?_append_right (by simp; omega)]
        simp [Nat.min_eq_left (Nat.le_of_lt hpl), hpl]
      rw [e1]
      dsimp only
      have e2 : allB (fun _ a => fillO i k [(p : Int)] (.la b (.l r)) r (.lst (((Ds.take p).map g ++ Ds.drop p).map D.lst)) b a (mb (((env.set i (some (.la b (.l r), .lst (((Ds.take p).map g ++ Ds.drop p).map D.lst)))).set i (some (.z, .adr b))).set k (some (.la a r, .lst Ds[p]))))) = .next (env.set i (some (.la b (.l r), .lst (((Ds.take (p + 1)).map g ++ Ds.drop (p + 1)).map D.lst)))) := by
        refine allB_of fun _ a => ?_
        rw [List.set_set, hb b a _ (List.getElem_mem hpl)]
        show fillO.go i k [(p : Int)] (.la b (.l r)) r (.lst (((Ds.take p).map g ++ Ds.drop p).map D.lst)) b a ((env.set i (some (.z, .adr b))).set k (some (.la a r, .lst (g Ds[p])))) .next = _
        unfold fillO.go
        have f1 : ((env.set i (some (.z, .adr b))).set k (some (.la a r, .lst (g Ds[p]))))[i]? = some (some (.z, .adr b)) := by
          rw [List.getElem?_set_ne (fun e => hik e.symm), List.getElem?_set_self hil]
        have f2 : ((env.set i (some (.z, .adr b))).set k (some (.la a r, .lst (g Ds[p]))))[k]? = some (some (.la a r, .lst (g Ds[p]))) := List.getElem?_set_self (by rw [List.length_set]; exact hkl)
        rw [f1, f2]
        dsimp only
        rw [if_pos ⟨rfl, rfl, frEq_self r⟩]
        have hx : L2.ixN (((Ds.take p).map g ++ Ds.drop p).map D.lst).length (p : Int) = some p := by
          unfold L2.ixN
          rw [if_pos (by omega), if_pos (by simp; omega)]
          simp
        have hbu : bury (.lst (((Ds.take p).map g ++ Ds.drop p).map D.lst)) [(p : Int)] (.lst (g Ds[p])) = .lst ((((Ds.take p).map g ++ Ds.drop p).map D.lst).set p (.lst (g Ds[p]))) := by simp only [bury, L2.atI, hx, Option.bind, e1, setI]
        rw [hbu]
        congr 1
        rw [List.set_set]
        have f3 : ((env.set i (some (.z, .adr b))).set k none) = env.set i (some (.z, .adr b)) := set_eq_self (by rw [List.getElem?_set_ne hik, hk])
        rw [f3, List.set_set]
        congr 3
        rw [← List.map_set]
        congr 2
        have hA : ((Ds.take p).map g).length = p := by simp; omega
        rw [List.set_append_right _ _ (by omega), ← List.take_append_getElem hpl, List.map_append, List.append_assoc, hA, Nat.sub_self, List.drop_eq_getElem_cons hpl]
        rfl
      rw [e2]
      show mFBL i k b r mb (p + 1) m _ = _
      exact ih (p + 1) (by omega)
  unfold mForB
  rw [h0]
  dsimp only
  refine allA_of fun b => ?_
  have := key b Ds.length 0 (by omega)
  rw [List.take_zero, List.map_nil, List.nil_append, List.drop_zero] at this
  rw [List.length_map, this]
  show unla.go i b _ .next = _
  unfold unla.go
  rw [List.getElem?_set_self hil]
  dsimp only
  rw [if_pos rfl, List.set_set]

/-! ### the tree of the blocks of a row -/
theorem peek_z {i k : Nat} {mj : MA} {env : Env} {jd : List D} {js : List Int} {r0 : Fr} {d0 d : D} (hj : mj (dOf env) = .vals jd) (hi : intsD jd = some js) (h0 : env[i]? = some (some (r0, d0))) (hd : dig d0 js = some d) (hr : digF 0 r0 js = some .z) (hk : k < env.length) : mPeek i k mj env = .next (env.set k (some (.z, d))) := by
  unfold mPeek
  rw [hj]
  dsimp only
  rw [hi]
  dsimp only
  rw [h0]
  dsimp only
  rw [hd, hr]
  dsimp only
  rw [if_pos hk]
theorem look_next {i k : Nat} {mj mj2 : MA} {r : Fr} {me : ME} {mrest : MS} {env : Env} {jd : List D} {js : List Int} {r0 r1 : Fr} {d0 d : D} {ds : List D} {z : D} (hj : mj (dOf env) = .vals jd) (hi : intsD jd = some js) (h0 : env[i]? = some (some (r0, d0))) (hk : env[k]? = some none) (hd : dig d0 js = some d) (hr : digF 0 r0 js = some r1)
    (h2 : mj2 (dOf env) = .vals []) (h3 : env[i]? = some (some (.l r, .lst ds))) (hm : me ((dOf env).set k (some d)) = .val z) (hl : ds.length < 100000) : mLookApp i k mj mj2 r me mrest env = mrest (env.set i (some (.l r, .lst (ds ++ [z])))) := by
  unfold mLookApp
  rw [hj]
  dsimp only
  rw [hi]
  dsimp only
  rw [h0, hk]
  dsimp only
  rw [hd, hr]
  dsimp only
  unfold mMutG
  rw [h2]
  simp only [intsD, cellAt_0 h3, frEq_self, if_true, hm, fApp, if_pos hl, putAt_0 h3, bindS]
theorem dig_last {ds : List D} {d : D} : dig (.lst (ds ++ [d])) [-1] = some d := by
  have h : L2.atI (ds ++ [d]) (-1) = some d := by
    cases ds with
    | nil => rfl
    | cons x t =>
      rw [List.cons_append, atI_m1]
      congr 1
      have h : ∀ (l : List D) (h : l ++ [d] ≠ []), (l ++ [d]).getLast h = d := fun l h => by simp
      exact h (x :: t) _
  rw [dig_l, h, digK_s, dig_n]
theorem eqD_tints {xs ys : List Int} : eqD (.tup (xs.map D.int)) (.tup (ys.map D.int)) = decide (xs = ys) := by
  unfold eqD
  rw [toPy, toPy, PySem.PyData.eqv, eqD_ints]
theorem okP_tints {k : Nat} {xs : List Int} : okP (k + 1) (.tup (xs.map D.int)) = true := by
  rw [okP]
  exact okPs_ints xs
theorem fNe_tints {xs ys : List Int} : fNe (.tup (xs.map D.int)) (.tup (ys.map D.int)) = .val (.bl (!decide (xs = ys))) := by
  unfold fNe
  rw [if_pos ⟨okP_tints, okP_tints⟩, eqD_tints]
def brow (f : Nat) (bs : List Bool) (l : Nat) : List (List Bool) := (List.range (cl f l bs.length)).map fun p => (bs.drop (p * f ^ l)).take (f ^ l)
def dBR (r : List (List Bool)) : D := .lst (r.map bk)
def btree (f : Nat) (bs : List Bool) : List (List (List Bool)) := (List.range (lv f bs.length).length).map fun l => brow f bs l
def dBT (T : List (List (List Bool))) : D := .lst (T.map dBR)
theorem brow_len {f l : Nat} {bs : List Bool} : (brow f bs l).length = cl f l bs.length := by simp [brow]
theorem brow_0 {f : Nat} {bs : List Bool} : brow f bs 0 = bs.map fun b => [b] := by
  unfold brow
  rw [cl_0]
  refine List.ext_getElem (by simp) fun i h1 h2 => ?_
  have hi : i < bs.length := by simpa using h2
  simp only [List.getElem_map, List.getElem_range, Nat.pow_zero, Nat.mul_one]
  rw [List.drop_eq_getElem_cons hi]
  rfl
theorem chunks {α : Type} (xs : List α) (w j : Nat) : ∀ m, ((List.range m).map fun i => (xs.drop ((j + i) * w)).take w).flatten = (xs.drop (j * w)).take (m * w)
  | 0 => by simp
  | m + 1 => by
    rw [List.range_succ, List.map_append, List.flatten_append, chunks xs w j m, Nat.succ_mul, List.take_add, List.drop_drop]
    simp [Nat.add_mul]
theorem cut_range {α : Type} (g : Nat → α) (n a f : Nat) : (((List.range n).map g).drop a).take f = (List.range (min f (n - a))).map fun i => g (a + i) := by
  refine List.ext_getElem (by simp) fun i h1 h2 => ?_
  simp
theorem brow_cut {f l k : Nat} {bs : List Bool} (hf : 0 < f) (hk : k < cl f (l + 1) bs.length) : (((brow f bs l).drop (k * f)).take f).flatten = (bs.drop (k * f ^ (l + 1))).take (f ^ (l + 1)) := by
  unfold brow
  rw [cut_range, chunks]
  have e1 : k * f * f ^ l = k * f ^ (l + 1) := by rw [Nat.mul_assoc, Nat.pow_succ, Nat.mul_comm f]
  have e2 : f * f ^ l = f ^ (l + 1) := by rw [Nat.pow_succ, Nat.mul_comm]
  rw [e1]
  rcases Nat.le_total f (cl f l bs.length - k * f) with h | h
  · rw [Nat.min_eq_left h, e2]
  · rw [Nat.min_eq_right h]
    have h1 : bs.length ≤ cl f l bs.length * f ^ l := (cl_le hf).mp (Nat.le_refl _)
    have h2 : (bs.drop (k * f ^ (l + 1))).length ≤ (cl f l bs.length - k * f) * f ^ l := by
      rw [List.length_drop, Nat.sub_mul, e1]
      omega
    have h3 : (cl f l bs.length - k * f) * f ^ l ≤ f ^ (l + 1) := by
      rw [← e2]
      exact Nat.mul_le_mul_right _ h
    rw [List.take_of_length_le h2, List.take_of_length_le (Nat.le_trans h2 h3)]
theorem brow_le {f l : Nat} {bs : List Bool} (h2 : 2 ≤ f) : cl f l bs.length ≤ bs.length := (cl_le (by omega)).mpr (Nat.le_mul_of_pos_right _ (Nat.pow_pos (by omega)))
theorem bL_lnil {bs : List Bool} : fEq (bL bs) (.lst []) = .val (.bl bs.isEmpty) := by
  unfold bL
  rw [fEq_lnil (okPs_bls bs)]
  cases bs <;> rfl
theorem cut_nat {α : Type} (xs : List α) (b w : Nat) (hb : b ≤ xs.length) : cutG xs (some (b : Int)) (some ((b + w : Nat) : Int)) = (xs.drop b).take w := by
  unfold cutG
  rw [HT.sIx_nat, HT.sIx_nat, Nat.min_eq_left hb]
  rcases Nat.le_total (b + w) xs.length with h | h
  · rw [Nat.min_eq_left h]
    congr 1
    omega
  · rw [Nat.min_eq_right h, List.take_of_length_le (by simp), List.take_of_length_le (by simp; omega)]
theorem above_ok (f : Nat) (bs : List Bool) (h2 : 2 ≤ f) (h8 : f ≤ 8) (hn : bs.length ≤ 200) (l : Nat) (e0 e2 e4 : Option D) : mLcL (.nm 5) (mC (.bl true)) (mCall m_all_joined (mCons (mSl fSl (mVar 3) (mInt (mVar 5)) (mInt (m2 fAdd (mVar 5) (mVar 1)))) mNil)) [e0, some (.int (f : Int)), e2, some (dBR (brow f bs l)), e4, none] ((List.range (cl f (l + 1) bs.length)).map fun (i : Nat) => D.int (0 + (i : Int) * (f : Int))) [] = .val (dBR (brow f bs (l + 1))) := by
  have hlc := @lc_nat (.nm 5) (mCall m_all_joined (mCons (mSl fSl (mVar 3) (mInt (mVar 5)) (mInt (m2 fAdd (mVar 5) (mVar 1)))) mNil)) [e0, some (.int (f : Int)), e2, some (dBR (brow f bs l)), e4, none] (fun i => D.int (0 + (i : Int) * (f : Int))) (fun i => bk ((bs.drop (i * f ^ (l + 1))).take (f ^ (l + 1)))) (List.range (cl f (l + 1) bs.length)) [] (fun i hi => by
    refine ⟨_, rfl, ?_⟩
    have hi := List.mem_range.mp hi
    have hlt : i * f ≤ (brow f bs l).length := by
      rw [brow_len]
      rcases Nat.lt_or_ge (i * f) (cl f l bs.length) with g | g
      · omega
      · have := (up_le (k := i) (n := cl f l bs.length) (show 0 < f by omega)).mpr g
        rw [up_cl (by omega)] at this
        omega
    have e0 : (0 + (i : Int) * (f : Int)) = ((i * f : Nat) : Int) := by simp
    have e1 : ((i * f : Nat) : Int) + (f : Int) = ((i * f + f : Nat) : Int) := by simp
    have hc := cut_nat (brow f bs l) (i * f) f hlt
    have hj := all_joined_ok (((brow f bs l).drop (i * f)).take f)
    rw [brow_cut (by omega) hi] at hj
    rw [e0]
    unfold dBR
    simp (disch := first | omega | (simp only [List.length_cons, List.length_nil, List.length_map, List.length_set, List.length_append, List.length_replicate, Nat.zero_add, Nat.reduceAdd] <;> omega) | (simp only [noL, noLs, Bool.and_true, Bool.true_and, noLs_ints]; done) | (refine id ?_; with_unfolding_all rfl)) only [runF_ap, ini, List.replicate_succ, List.replicate_zero, List.length_cons, List.length_nil, List.length_set, Nat.reduceAdd, Nat.reduceSub, Nat.reduceLT, Nat.reduceLeDiff, Nat.zero_add, mIf_ap, brS_t, brS_f, brS_e, mSeq_ap, bindS_n, bindS_r, bindS_b, bindS_c, bindS_e, onE_v, onE_e, asgK_ok, mAsg_t, mAsg_f, mRet_ap, mExpr_t, mExpr_f, mRaise_ap, mNext_ap, mRetN_ap, mPass, mBrk, mCont, mRetV_ap, retK_s, mVar_ap, varK_s, mC_ap, bindE_v, bindE_e, m2_ap, b2_vv, b2_ve, b2_e, m1_ap, mN_ap, nK_i, nK_b, nK_n, nK_s, nK_e, nK_t, noL, noLs, Bool.and_true, Bool.true_and, mLN_ap, lnK_ok, mCons_ap, consA_v, consA_e, consA_ve, mNil_ap, mCall_ap, callK_v, callK_e, mTup_ap, mLst_ap, tupK_v, lstK_v, tupK_e, lstK_e, mAnd_ap, mOr_ap, andK_t, andK_f, orK_t, orK_f, andK_e, orK_e, mIfE_ap, ifK_t, ifK_f, mChain_ap, ch2_v, chK_t, chK_f, mSl_ap, slK_ii, slK_ni, slK_in, slK_nn, mInt_ap, intK_i, fAdd_i, fSub_i, fMul_l, fMul_r, fMod_i, fDiv_i, fPow_18, fPow_20, fPow_3, fShl_i, Int.one_mul, fNeg_i, fLt_t, fLt_f, fLe_t, fLe_f, fGt_t, fGt_f, fGe_t, fGe_f, fEq_t, fEq_f, fNe_t, fNe_f, fNot_b, Bool.not_true, Bool.not_false, fIsi_ap, isAdr_i, isAdr_b, isAdr_s, isAdr_l, isAdr_t, isAdr_n, isAdr_c, isK_inti, isK_intb, isK_ints, isK_intl, isK_intt, isK_intn, isK_booli, isK_boolb, isK_bools, isK_booll, isK_boolt, isK_booln, isK_stri, isK_strb, isK_strs, isK_strl, isK_strt, isK_strn, isK_listi, isK_listb, isK_lists, isK_listl, isK_listt, isK_listn, isK_tuplei, isK_tupleb, isK_tuples, isK_tuplel, isK_tuplet, isK_tuplen, isK_listscr, fMax_i, fMin_i, fIsN_n, fIsN_i, fIdx_0, fIdx_1, fIdx_2, fIdx_3, fIdx_4, fIdx_5, fIdx_6, fIdxT_0, fIdxT_1, fIdxT_2, fIdxT_3, fLen_l, fLen_t, fLen_s, fSl_l, fSl_s, fItL_l, fItL_s, fItT_t, mIter_ap, itK_v, mIt1_ap, it1K_v, fRng_1, fRng_2, mFor_t, mFor_f, forK_v, mLc_ap, lcK_v, lcK_e, mAppMv_ap, app1_l, mParN_ap, parK_v, mAsgTz_f, mAsgTz_t, tzK_2, mMut_ap, mutK_0, mut0_appS, mut0_appLa, mut0_ext, mut0_clr, mut0_clrLa, mAsgT_f, mAsgT_t, tK_2, vw_t, vw_f, mFrz_ap, frz_ap, frzK_s, frzK_n, finR_r, finR_nn, finR_nz, List.nil_append, finR_e, Fr.fz, look, dOf_nil, dOf_c, hOf_nil, hOf_c, hid, Option.map_some, Option.map_none, List.set_cons_zero, List.set_cons_succ, List.getElem?_cons_zero, List.getElem?_cons_succ, List.length_map, wipeE, mPut_ap, putK_0, put0_l, put0_la, Int.toNat_natCast, mutK_p, mutI_s, mutP_s, mutQ_app, mutQ_clr, putK_p, putI_s, putP_s, putQ_ok, mSnoc_k, snocK_0, snocK_1, snocK_2, intsD_n, intsD_c, consO_s, dig_n, dig_l, dig_t, digK_s, digF_n, digF_l, digF_t, digFK_s, atI_0, atI_1, atI_2, atI_m1, bury_n, bury_t0, bury_t1, bury_t2, bury_l0, bury_l1, e1, cutG_map, hc, hj]) (by simp; have := @brow_le f (l + 1) bs h2; omega)
  have er : ((List.range (cl f (l + 1) bs.length)).map fun i => bk ((bs.drop (i * f ^ (l + 1))).take (f ^ (l + 1)))) = (brow f bs (l + 1)).map bk := by
    unfold brow
    rw [List.map_map]
    rfl
  rw [hlc, List.nil_append, er]
  rfl
theorem blocks_ok (f : Nat) (bs : List Bool) (h2 : 2 ≤ f) (h8 : f ≤ 8) (hn : bs.length ≤ 200) : m_blocks [bL bs, .int (f : Int)] = .val (dBT (btree f bs)) := by
  by_cases h0 : bs = []
  · subst h0
    have e : fEq (.lst []) (.lst []) = .val (.bl true) := fEq_refl rfl
    have e1 : dBT (btree f []) = .lst [] := rfl
    rw [e1]
    unfold bL m_blocks b_blocks
    simp only [List.map_nil]
    simp (disch := first | omega | (simp only [List.length_cons, List.length_nil, List.length_map, List.length_set, List.length_append, List.length_replicate, Nat.zero_add, Nat.reduceAdd] <;> omega) | (simp only [noL, noLs, Bool.and_true, Bool.true_and, noLs_ints]; done) | (refine id ?_; with_unfolding_all rfl)) only [runF_ap, ini, List.replicate_succ, List.replicate_zero, List.length_cons, List.length_nil, List.length_set, Nat.reduceAdd, Nat.reduceSub, Nat.reduceLT, Nat.reduceLeDiff, Nat.zero_add, mIf_ap, brS_t, brS_f, brS_e, mSeq_ap, bindS_n, bindS_r, bindS_b, bindS_c, bindS_e, onE_v, onE_e, asgK_ok, mAsg_t, mAsg_f, mRet_ap, mExpr_t, mExpr_f, mRaise_ap, mNext_ap, mRetN_ap, mPass, mBrk, mCont, mRetV_ap, retK_s, mVar_ap, varK_s, mC_ap, bindE_v, bindE_e, m2_ap, b2_vv, b2_ve, b2_e, m1_ap, mN_ap, nK_i, nK_b, nK_n, nK_s, nK_e, nK_t, noL, noLs, Bool.and_true, Bool.true_and, mLN_ap, lnK_ok, mCons_ap, consA_v, consA_e, consA_ve, mNil_ap, mCall_ap, callK_v, callK_e, mTup_ap, mLst_ap, tupK_v, lstK_v, tupK_e, lstK_e, mAnd_ap, mOr_ap, andK_t, andK_f, orK_t, orK_f, andK_e, orK_e, mIfE_ap, ifK_t, ifK_f, mChain_ap, ch2_v, chK_t, chK_f, mSl_ap, slK_ii, slK_ni, slK_in, slK_nn, mInt_ap, intK_i, fAdd_i, fSub_i, fMul_l, fMul_r, fMod_i, fDiv_i, fPow_18, fPow_20, fPow_3, fShl_i, Int.one_mul, fNeg_i, fLt_t, fLt_f, fLe_t, fLe_f, fGt_t, fGt_f, fGe_t, fGe_f, fEq_t, fEq_f, fNe_t, fNe_f, fNot_b, Bool.not_true, Bool.not_false, fIsi_ap, isAdr_i, isAdr_b, isAdr_s, isAdr_l, isAdr_t, isAdr_n, isAdr_c, isK_inti, isK_intb, isK_ints, isK_intl, isK_intt, isK_intn, isK_booli, isK_boolb, isK_bools, isK_booll, isK_boolt, isK_booln, isK_stri, isK_strb, isK_strs, isK_strl, isK_strt, isK_strn, isK_listi, isK_listb, isK_lists, isK_listl, isK_listt, isK_listn, isK_tuplei, isK_tupleb, isK_tuples, isK_tuplel, isK_tuplet, isK_tuplen, isK_listscr, fMax_i, fMin_i, fIsN_n, fIsN_i, fIdx_0, fIdx_1, fIdx_2, fIdx_3, fIdx_4, fIdx_5, fIdx_6, fIdxT_0, fIdxT_1, fIdxT_2, fIdxT_3, fLen_l, fLen_t, fLen_s, fSl_l, fSl_s, fItL_l, fItL_s, fItT_t, mIter_ap, itK_v, mIt1_ap, it1K_v, fRng_1, fRng_2, mFor_t, mFor_f, forK_v, mLc_ap, lcK_v, lcK_e, mAppMv_ap, app1_l, mParN_ap, parK_v, mAsgTz_f, mAsgTz_t, tzK_2, mMut_ap, mutK_0, mut0_appS, mut0_appLa, mut0_ext, mut0_clr, mut0_clrLa, mAsgT_f, mAsgT_t, tK_2, vw_t, vw_f, mFrz_ap, frz_ap, frzK_s, frzK_n, finR_r, finR_nn, finR_nz, List.nil_append, finR_e, Fr.fz, look, dOf_nil, dOf_c, hOf_nil, hOf_c, hid, Option.map_some, Option.map_none, List.set_cons_zero, List.set_cons_succ, List.getElem?_cons_zero, List.getElem?_cons_succ, List.length_map, wipeE, mPut_ap, putK_0, put0_l, put0_la, Int.toNat_natCast, mutK_p, mutI_s, mutP_s, mutQ_app, mutQ_clr, putK_p, putI_s, putP_s, putQ_ok, mSnoc_k, snocK_0, snocK_1, snocK_2, intsD_n, intsD_c, consO_s, dig_n, dig_l, dig_t, digK_s, digF_n, digF_l, digF_t, digFK_s, atI_0, atI_1, atI_2, atI_m1, bury_n, bury_t0, bury_t1, bury_t2, bury_l0, bury_l1, e]
  · have hp : 0 < bs.length := List.length_pos_iff.mpr h0
    have e : fEq (bL bs) (.lst []) = .val (.bl false) := by
      rw [bL_lnil]
      cases bs with
      | nil => exact absurd rfl h0
      | cons x xs => rfl
    have hll := @lv_len f bs.length h2 (by omega)
    have hl1 := @lv_ne f bs.length hp
    let E : Nat → Env := fun i => [some (.z, bL bs), some (.z, .int (f : Int)), some (.l (.l .n), .lst (((List.range i).map fun l => dBR (brow f bs l)) ++ [dBR (brow f bs i)])), none, none, none]
    let Z : OS → Prop := fun o => o = .next (E ((lv f bs.length).length - 1))
    have key : Z (mWhile (m2 fGt (mCall fLen (mCons (m2 fIdx (mVar 2) (m1 fNeg (mC (.int 1)))) mNil)) (mC (.int 1))) l1_blocks 1000 (E 0)) := by
      refine while_run Z (fun m e => ∃ i, i < (lv f bs.length).length ∧ m = (lv f bs.length).length - i ∧ e = E i) 1000 (lv f bs.length).length _ (by omega) ⟨0, hl1, rfl, rfl⟩ ?_
      rintro m e ⟨i, hi, rfl, rfl⟩
      have hlen : fLen [dBR (brow f bs i)] = .val (.int ((cl f i bs.length : Nat) : Int)) := by
        unfold dBR
        rw [fLen_l, List.length_map, brow_len]
      have hcl := @brow_le f i bs h2
      refine ⟨decide (i + 1 < (lv f bs.length).length), ?_, ?_, ?_⟩
      · by_cases g : i + 1 < (lv f bs.length).length
        · have := lv_big (show 0 < f by omega) g
          rw [decide_eq_true g]
          simp only [E]
          simp (disch := first | omega | (simp only [List.length_cons, List.length_nil, List.length_map, List.length_set, List.length_append, List.length_replicate, Nat.zero_add, Nat.reduceAdd] <;> omega) | (simp only [noL, noLs, Bool.and_true, Bool.true_and, noLs_ints]; done) | (refine id ?_; with_unfolding_all rfl)) only [runF_ap, ini, List.replicate_succ, List.replicate_zero, List.length_cons, List.length_nil, List.length_set, Nat.reduceAdd, Nat.reduceSub, Nat.reduceLT, Nat.reduceLeDiff, Nat.zero_add, mIf_ap, brS_t, brS_f, brS_e, mSeq_ap, bindS_n, bindS_r, bindS_b, bindS_c, bindS_e, onE_v, onE_e, asgK_ok, mAsg_t, mAsg_f, mRet_ap, mExpr_t, mExpr_f, mRaise_ap, mNext_ap, mRetN_ap, mPass, mBrk, mCont, mRetV_ap, retK_s, mVar_ap, varK_s, mC_ap, bindE_v, bindE_e, m2_ap, b2_vv, b2_ve, b2_e, m1_ap, mN_ap, nK_i, nK_b, nK_n, nK_s, nK_e, nK_t, noL, noLs, Bool.and_true, Bool.true_and, mLN_ap, lnK_ok, mCons_ap, consA_v, consA_e, consA_ve, mNil_ap, mCall_ap, callK_v, callK_e, mTup_ap, mLst_ap, tupK_v, lstK_v, tupK_e, lstK_e, mAnd_ap, mOr_ap, andK_t, andK_f, orK_t, orK_f, andK_e, orK_e, mIfE_ap, ifK_t, ifK_f, mChain_ap, ch2_v, chK_t, chK_f, mSl_ap, slK_ii, slK_ni, slK_in, slK_nn, mInt_ap, intK_i, fAdd_i, fSub_i, fMul_l, fMul_r, fMod_i, fDiv_i, fPow_18, fPow_20, fPow_3, fShl_i, Int.one_mul, fNeg_i, fLt_t, fLt_f, fLe_t, fLe_f, fGt_t, fGt_f, fGe_t, fGe_f, fEq_t, fEq_f, fNe_t, fNe_f, fNot_b, Bool.not_true, Bool.not_false, fIsi_ap, isAdr_i, isAdr_b, isAdr_s, isAdr_l, isAdr_t, isAdr_n, isAdr_c, isK_inti, isK_intb, isK_ints, isK_intl, isK_intt, isK_intn, isK_booli, isK_boolb, isK_bools, isK_booll, isK_boolt, isK_booln, isK_stri, isK_strb, isK_strs, isK_strl, isK_strt, isK_strn, isK_listi, isK_listb, isK_lists, isK_listl, isK_listt, isK_listn, isK_tuplei, isK_tupleb, isK_tuples, isK_tuplel, isK_tuplet, isK_tuplen, isK_listscr, fMax_i, fMin_i, fIsN_n, fIsN_i, fIdx_0, fIdx_1, fIdx_2, fIdx_3, fIdx_4, fIdx_5, fIdx_6, fIdxT_0, fIdxT_1, fIdxT_2, fIdxT_3, fLen_l, fLen_t, fLen_s, fSl_l, fSl_s, fItL_l, fItL_s, fItT_t, mIter_ap, itK_v, mIt1_ap, it1K_v, fRng_1, fRng_2, mFor_t, mFor_f, forK_v, mLc_ap, lcK_v, lcK_e, mAppMv_ap, app1_l, mParN_ap, parK_v, mAsgTz_f, mAsgTz_t, tzK_2, mMut_ap, mutK_0, mut0_appS, mut0_appLa, mut0_ext, mut0_clr, mut0_clrLa, mAsgT_f, mAsgT_t, tK_2, vw_t, vw_f, mFrz_ap, frz_ap, frzK_s, frzK_n, finR_r, finR_nn, finR_nz, List.nil_append, finR_e, Fr.fz, look, dOf_nil, dOf_c, hOf_nil, hOf_c, hid, Option.map_some, Option.map_none, List.set_cons_zero, List.set_cons_succ, List.getElem?_cons_zero, List.getElem?_cons_succ, List.length_map, wipeE, mPut_ap, putK_0, put0_l, put0_la, Int.toNat_natCast, mutK_p, mutI_s, mutP_s, mutQ_app, mutQ_clr, putK_p, putI_s, putP_s, putQ_ok, mSnoc_k, snocK_0, snocK_1, snocK_2, intsD_n, intsD_c, consO_s, dig_n, dig_l, dig_t, digK_s, digF_n, digF_l, digF_t, digFK_s, atI_0, atI_1, atI_2, atI_m1, bury_n, bury_t0, bury_t1, bury_t2, bury_l0, bury_l1, fIdx_last, hlen]
        · have hlast := lv_last h2 hp
          rw [show (lv f bs.length).length - 1 = i by omega] at hlast
          rw [decide_eq_false g]
          simp only [E]
          simp (disch := first | omega | (simp only [List.length_cons, List.length_nil, List.length_map, List.length_set, List.length_append, List.length_replicate, Nat.zero_add, Nat.reduceAdd] <;> omega) | (simp only [noL, noLs, Bool.and_true, Bool.true_and, noLs_ints]; done) | (refine id ?_; with_unfolding_all rfl)) only [runF_ap, ini, List.replicate_succ, List.replicate_zero, List.length_cons, List.length_nil, List.length_set, Nat.reduceAdd, Nat.reduceSub, Nat.reduceLT, Nat.reduceLeDiff, Nat.zero_add, mIf_ap, brS_t, brS_f, brS_e, mSeq_ap, bindS_n, bindS_r, bindS_b, bindS_c, bindS_e, onE_v, onE_e, asgK_ok, mAsg_t, mAsg_f, mRet_ap, mExpr_t, mExpr_f, mRaise_ap, mNext_ap, mRetN_ap, mPass, mBrk, mCont, mRetV_ap, retK_s, mVar_ap, varK_s, mC_ap, bindE_v, bindE_e, m2_ap, b2_vv, b2_ve, b2_e, m1_ap, mN_ap, nK_i, nK_b, nK_n, nK_s, nK_e, nK_t, noL, noLs, Bool.and_true, Bool.true_and, mLN_ap, lnK_ok, mCons_ap, consA_v, consA_e, consA_ve, mNil_ap, mCall_ap, callK_v, callK_e, mTup_ap, mLst_ap, tupK_v, lstK_v, tupK_e, lstK_e, mAnd_ap, mOr_ap, andK_t, andK_f, orK_t, orK_f, andK_e, orK_e, mIfE_ap, ifK_t, ifK_f, mChain_ap, ch2_v, chK_t, chK_f, mSl_ap, slK_ii, slK_ni, slK_in, slK_nn, mInt_ap, intK_i, fAdd_i, fSub_i, fMul_l, fMul_r, fMod_i, fDiv_i, fPow_18, fPow_20, fPow_3, fShl_i, Int.one_mul, fNeg_i, fLt_t, fLt_f, fLe_t, fLe_f, fGt_t, fGt_f, fGe_t, fGe_f, fEq_t, fEq_f, fNe_t, fNe_f, fNot_b, Bool.not_true, Bool.not_false, fIsi_ap, isAdr_i, isAdr_b, isAdr_s, isAdr_l, isAdr_t, isAdr_n, isAdr_c, isK_inti, isK_intb, isK_ints, isK_intl, isK_intt, isK_intn, isK_booli, isK_boolb, isK_bools, isK_booll, isK_boolt, isK_booln, isK_stri, isK_strb, isK_strs, isK_strl, isK_strt, isK_strn, isK_listi, isK_listb, isK_lists, isK_listl, isK_listt, isK_listn, isK_tuplei, isK_tupleb, isK_tuples, isK_tuplel, isK_tuplet, isK_tuplen, isK_listscr, fMax_i, fMin_i, fIsN_n, fIsN_i, fIdx_0, fIdx_1, fIdx_2, fIdx_3, fIdx_4, fIdx_5, fIdx_6, fIdxT_0, fIdxT_1, fIdxT_2, fIdxT_3, fLen_l, fLen_t, fLen_s, fSl_l, fSl_s, fItL_l, fItL_s, fItT_t, mIter_ap, itK_v, mIt1_ap, it1K_v, fRng_1, fRng_2, mFor_t, mFor_f, forK_v, mLc_ap, lcK_v, lcK_e, mAppMv_ap, app1_l, mParN_ap, parK_v, mAsgTz_f, mAsgTz_t, tzK_2, mMut_ap, mutK_0, mut0_appS, mut0_appLa, mut0_ext, mut0_clr, mut0_clrLa, mAsgT_f, mAsgT_t, tK_2, vw_t, vw_f, mFrz_ap, frz_ap, frzK_s, frzK_n, finR_r, finR_nn, finR_nz, List.nil_append, finR_e, Fr.fz, look, dOf_nil, dOf_c, hOf_nil, hOf_c, hid, Option.map_some, Option.map_none, List.set_cons_zero, List.set_cons_succ, List.getElem?_cons_zero, List.getElem?_cons_succ, List.length_map, wipeE, mPut_ap, putK_0, put0_l, put0_la, Int.toNat_natCast, mutK_p, mutI_s, mutP_s, mutQ_app, mutQ_clr, putK_p, putI_s, putP_s, putQ_ok, mSnoc_k, snocK_0, snocK_1, snocK_2, intsD_n, intsD_c, consO_s, dig_n, dig_l, dig_t, digK_s, digF_n, digF_l, digF_t, digFK_s, atI_0, atI_1, atI_2, atI_m1, bury_n, bury_t0, bury_t1, bury_t2, bury_l0, bury_l1, fIdx_last, hlen]
      · intro g
        have g : ¬ i + 1 < (lv f bs.length).length := by simpa using g
        have e1 : i = (lv f bs.length).length - 1 := by omega
        show OS.next (E i) = OS.next (E ((lv f bs.length).length - 1))
        rw [← e1]
      · intro g
        have g : i + 1 < (lv f bs.length).length := by simpa using g
        have ha := above_ok f bs h2 h8 hn i
        have hr := rs3 (n := cl f i bs.length) (f := f) (by omega) h2 (by omega)
        rw [up_cl (by omega)] at hr
        have hl2 : (((List.range i).map fun l => dBR (brow f bs l)) ++ [dBR (brow f bs i)]).length < 100000 := by simp; omega
        have hlk := @look_next 2 3 (mSnoc mNil (m1 fNeg (mC (.int 1)))) mNil (.l .n) (mLc (mIter fRng3 (mCons (mC (.int 0)) (mCons (mCall fLen (mCons (mVar 3) mNil)) (mCons (mVar 1) mNil)))) (.nm 5) (mC (.bl true)) (mCall m_all_joined (mCons (mSl fSl (mVar 3) (mInt (mVar 5)) (mInt (m2 fAdd (mVar 5) (mVar 1)))) mNil)) [5]) mNext (E i) [.int (-1)] [-1] (.l (.l .n)) (.l .n) (.lst (((List.range i).map fun l => dBR (brow f bs l)) ++ [dBR (brow f bs i)])) (dBR (brow f bs i)) (((List.range i).map fun l => dBR (brow f bs l)) ++ [dBR (brow f bs i)]) (dBR (brow f bs (i + 1))) (by simp only [E]; simp (disch := first | omega | (simp only [List.length_cons, List.length_nil, List.length_map, List.length_set, List.length_append, List.length_replicate, Nat.zero_add, Nat.reduceAdd] <;> omega) | (simp only [noL, noLs, Bool.and_true, Bool.true_and, noLs_ints]; done) | (refine id ?_; with_unfolding_all rfl)) only [runF_ap, ini, List.replicate_succ, List.replicate_zero, List.length_cons, List.length_nil, List.length_set, Nat.reduceAdd, Nat.reduceSub, Nat.reduceLT, Nat.reduceLeDiff, Nat.zero_add, mIf_ap, brS_t, brS_f, brS_e, mSeq_ap, bindS_n, bindS_r, bindS_b, bindS_c, bindS_e, onE_v, onE_e, asgK_ok, mAsg_t, mAsg_f, mRet_ap, mExpr_t, mExpr_f, mRaise_ap, mNext_ap, mRetN_ap, mPass, mBrk, mCont, mRetV_ap, retK_s, mVar_ap, varK_s, mC_ap, bindE_v, bindE_e, m2_ap, b2_vv, b2_ve, b2_e, m1_ap, mN_ap, nK_i, nK_b, nK_n, nK_s, nK_e, nK_t, noL, noLs, Bool.and_true, Bool.true_and, mLN_ap, lnK_ok, mCons_ap, consA_v, consA_e, consA_ve, mNil_ap, mCall_ap, callK_v, callK_e, mTup_ap, mLst_ap, tupK_v, lstK_v, tupK_e, lstK_e, mAnd_ap, mOr_ap, andK_t, andK_f, orK_t, orK_f, andK_e, orK_e, mIfE_ap, ifK_t, ifK_f, mChain_ap, ch2_v, chK_t, chK_f, mSl_ap, slK_ii, slK_ni, slK_in, slK_nn, mInt_ap, intK_i, fAdd_i, fSub_i, fMul_l, fMul_r, fMod_i, fDiv_i, fPow_18, fPow_20, fPow_3, fShl_i, Int.one_mul, fNeg_i, fLt_t, fLt_f, fLe_t, fLe_f, fGt_t, fGt_f, fGe_t, fGe_f, fEq_t, fEq_f, fNe_t, fNe_f, fNot_b, Bool.not_true, Bool.not_false, fIsi_ap, isAdr_i, isAdr_b, isAdr_s, isAdr_l, isAdr_t, isAdr_n, isAdr_c, isK_inti, isK_intb, isK_ints, isK_intl, isK_intt, isK_intn, isK_booli, isK_boolb, isK_bools, isK_booll, isK_boolt, isK_booln, isK_stri, isK_strb, isK_strs, isK_strl, isK_strt, isK_strn, isK_listi, isK_listb, isK_lists, isK_listl, isK_listt, isK_listn, isK_tuplei, isK_tupleb, isK_tuples, isK_tuplel, isK_tuplet, isK_tuplen, isK_listscr, fMax_i, fMin_i, fIsN_n, fIsN_i, fIdx_0, fIdx_1, fIdx_2, fIdx_3, fIdx_4, fIdx_5, fIdx_6, fIdxT_0, fIdxT_1, fIdxT_2, fIdxT_3, fLen_l, fLen_t, fLen_s, fSl_l, fSl_s, fItL_l, fItL_s, fItT_t, mIter_ap, itK_v, mIt1_ap, it1K_v, fRng_1, fRng_2, mFor_t, mFor_f, forK_v, mLc_ap, lcK_v, lcK_e, mAppMv_ap, app1_l, mParN_ap, parK_v, mAsgTz_f, mAsgTz_t, tzK_2, mMut_ap, mutK_0, mut0_appS, mut0_appLa, mut0_ext, mut0_clr, mut0_clrLa, mAsgT_f, mAsgT_t, tK_2, vw_t, vw_f, mFrz_ap, frz_ap, frzK_s, frzK_n, finR_r, finR_nn, finR_nz, List.nil_append, finR_e, Fr.fz, look, dOf_nil, dOf_c, hOf_nil, hOf_c, hid, Option.map_some, Option.map_none, List.set_cons_zero, List.set_cons_succ, List.getElem?_cons_zero, List.getElem?_cons_succ, List.length_map, wipeE, mPut_ap, putK_0, put0_l, put0_la, Int.toNat_natCast, mutK_p, mutI_s, mutP_s, mutQ_app, mutQ_clr, putK_p, putI_s, putP_s, putQ_ok, mSnoc_k, snocK_0, snocK_1, snocK_2, intsD_n, intsD_c, consO_s, dig_n, dig_l, dig_t, digK_s, digF_n, digF_l, digF_t, digFK_s, atI_0, atI_1, atI_2, atI_m1, bury_n, bury_t0, bury_t1, bury_t2, bury_l0, bury_l1]) rfl rfl rfl dig_last rfl (by simp only [mNil]) rfl (by
          simp only [E]
          simp (disch := first | omega | (simp only [List.length_cons, List.length_nil, List.length_map, List.length_set, List.length_append, List.length_replicate, Nat.zero_add, Nat.reduceAdd] <;> omega) | (simp only [noL, noLs, Bool.and_true, Bool.true_and, noLs_ints]; done) | (refine id ?_; with_unfolding_all rfl)) only [runF_ap, ini, List.replicate_succ, List.replicate_zero, List.length_cons, List.length_nil, List.length_set, Nat.reduceAdd, Nat.reduceSub, Nat.reduceLT, Nat.reduceLeDiff, Nat.zero_add, mIf_ap, brS_t, brS_f, brS_e, mSeq_ap, bindS_n, bindS_r, bindS_b, bindS_c, bindS_e, onE_v, onE_e, asgK_ok, mAsg_t, mAsg_f, mRet_ap, mExpr_t, mExpr_f, mRaise_ap, mNext_ap, mRetN_ap, mPass, mBrk, mCont, mRetV_ap, retK_s, mVar_ap, varK_s, mC_ap, bindE_v, bindE_e, m2_ap, b2_vv, b2_ve, b2_e, m1_ap, mN_ap, nK_i, nK_b, nK_n, nK_s, nK_e, nK_t, noL, noLs, Bool.and_true, Bool.true_and, mLN_ap, lnK_ok, mCons_ap, consA_v, consA_e, consA_ve, mNil_ap, mCall_ap, callK_v, callK_e, mTup_ap, mLst_ap, tupK_v, lstK_v, tupK_e, lstK_e, mAnd_ap, mOr_ap, andK_t, andK_f, orK_t, orK_f, andK_e, orK_e, mIfE_ap, ifK_t, ifK_f, mChain_ap, ch2_v, chK_t, chK_f, mSl_ap, slK_ii, slK_ni, slK_in, slK_nn, mInt_ap, intK_i, fAdd_i, fSub_i, fMul_l, fMul_r, fMod_i, fDiv_i, fPow_18, fPow_20, fPow_3, fShl_i, Int.one_mul, fNeg_i, fLt_t, fLt_f, fLe_t, fLe_f, fGt_t, fGt_f, fGe_t, fGe_f, fEq_t, fEq_f, fNe_t, fNe_f, fNot_b, Bool.not_true, Bool.not_false, fIsi_ap, isAdr_i, isAdr_b, isAdr_s, isAdr_l, isAdr_t, isAdr_n, isAdr_c, isK_inti, isK_intb, isK_ints, isK_intl, isK_intt, isK_intn, isK_booli, isK_boolb, isK_bools, isK_booll, isK_boolt, isK_booln, isK_stri, isK_strb, isK_strs, isK_strl, isK_strt, isK_strn, isK_listi, isK_listb, isK_lists, isK_listl, isK_listt, isK_listn, isK_tuplei, isK_tupleb, isK_tuples, isK_tuplel, isK_tuplet, isK_tuplen, isK_listscr, fMax_i, fMin_i, fIsN_n, fIsN_i, fIdx_0, fIdx_1, fIdx_2, fIdx_3, fIdx_4, fIdx_5, fIdx_6, fIdxT_0, fIdxT_1, fIdxT_2, fIdxT_3, fLen_l, fLen_t, fLen_s, fSl_l, fSl_s, fItL_l, fItL_s, fItT_t, mIter_ap, itK_v, mIt1_ap, it1K_v, fRng_1, fRng_2, mFor_t, mFor_f, forK_v, mLc_ap, lcK_v, lcK_e, mAppMv_ap, app1_l, mParN_ap, parK_v, mAsgTz_f, mAsgTz_t, tzK_2, mMut_ap, mutK_0, mut0_appS, mut0_appLa, mut0_ext, mut0_clr, mut0_clrLa, mAsgT_f, mAsgT_t, tK_2, vw_t, vw_f, mFrz_ap, frz_ap, frzK_s, frzK_n, finR_r, finR_nn, finR_nz, List.nil_append, finR_e, Fr.fz, look, dOf_nil, dOf_c, hOf_nil, hOf_c, hid, Option.map_some, Option.map_none, List.set_cons_zero, List.set_cons_succ, List.getElem?_cons_zero, List.getElem?_cons_succ, List.length_map, wipeE, mPut_ap, putK_0, put0_l, put0_la, Int.toNat_natCast, mutK_p, mutI_s, mutP_s, mutQ_app, mutQ_clr, putK_p, putI_s, putP_s, putQ_ok, mSnoc_k, snocK_0, snocK_1, snocK_2, intsD_n, intsD_c, consO_s, dig_n, dig_l, dig_t, digK_s, digF_n, digF_l, digF_t, digFK_s, atI_0, atI_1, atI_2, atI_m1, bury_n, bury_t0, bury_t1, bury_t2, bury_l0, bury_l1, hlen, hr, ha]) hl2
        have ee : (E i).set 2 (some (.l (.l .n), .lst ((((List.range i).map fun l => dBR (brow f bs l)) ++ [dBR (brow f bs i)]) ++ [dBR (brow f bs (i + 1))]))) = E (i + 1) := by
          simp only [E, List.set_cons_zero, List.set_cons_succ]
          rw [List.range_succ, List.map_append]
          rfl
        rw [ee] at hlk
        unfold l1_blocks
        rw [hlk]
        exact ⟨_, by omega, i + 1, g, rfl, rfl⟩
    have key : _ = OS.next (E ((lv f bs.length).length - 1)) := key
    simp only [E] at key
    have ee : (((List.range ((lv f bs.length).length - 1)).map fun l => dBR (brow f bs l)) ++ [dBR (brow f bs ((lv f bs.length).length - 1))]) = (btree f bs).map dBR := by
      unfold btree
      obtain ⟨k, hk⟩ : ∃ k, (lv f bs.length).length = k + 1 := ⟨_, (Nat.succ_pred_eq_of_pos hl1).symm⟩
      rw [hk, Nat.add_sub_cancel, List.range_succ, List.map_append, List.map_append, List.map_map]
      rfl
    rw [ee] at key
    simp only [List.range_zero, List.map_nil, List.nil_append] at key
    have hit : fItL (bL bs) = .items (bs.map .bl) := rfl
    have hlc := fun e0 e1 e2 e3 e5 => @lc_map (.nm 4) (mCall m_page_block (mCons (mVar 4) mNil)) [e0, e1, e2, e3, none, e5] (fun d => match d with | .bl b => bk [b] | d => d) (bs.map .bl) (fun d hd => by
      obtain ⟨b, _, rfl⟩ := List.mem_map.mp hd
      refine ⟨_, rfl, ?_⟩
      have := page_block_ok b
      simp (disch := first | omega | (simp only [List.length_cons, List.length_nil, List.length_map, List.length_set, List.length_append, List.length_replicate, Nat.zero_add, Nat.reduceAdd] <;> omega) | (simp only [noL, noLs, Bool.and_true, Bool.true_and, noLs_ints]; done) | (refine id ?_; with_unfolding_all rfl)) only [runF_ap, ini, List.replicate_succ, List.replicate_zero, List.length_cons, List.length_nil, List.length_set, Nat.reduceAdd, Nat.reduceSub, Nat.reduceLT, Nat.reduceLeDiff, Nat.zero_add, mIf_ap, brS_t, brS_f, brS_e, mSeq_ap, bindS_n, bindS_r, bindS_b, bindS_c, bindS_e, onE_v, onE_e, asgK_ok, mAsg_t, mAsg_f, mRet_ap, mExpr_t, mExpr_f, mRaise_ap, mNext_ap, mRetN_ap, mPass, mBrk, mCont, mRetV_ap, retK_s, mVar_ap, varK_s, mC_ap, bindE_v, bindE_e, m2_ap, b2_vv, b2_ve, b2_e, m1_ap, mN_ap, nK_i, nK_b, nK_n, nK_s, nK_e, nK_t, noL, noLs, Bool.and_true, Bool.true_and, mLN_ap, lnK_ok, mCons_ap, consA_v, consA_e, consA_ve, mNil_ap, mCall_ap, callK_v, callK_e, mTup_ap, mLst_ap, tupK_v, lstK_v, tupK_e, lstK_e, mAnd_ap, mOr_ap, andK_t, andK_f, orK_t, orK_f, andK_e, orK_e, mIfE_ap, ifK_t, ifK_f, mChain_ap, ch2_v, chK_t, chK_f, mSl_ap, slK_ii, slK_ni, slK_in, slK_nn, mInt_ap, intK_i, fAdd_i, fSub_i, fMul_l, fMul_r, fMod_i, fDiv_i, fPow_18, fPow_20, fPow_3, fShl_i, Int.one_mul, fNeg_i, fLt_t, fLt_f, fLe_t, fLe_f, fGt_t, fGt_f, fGe_t, fGe_f, fEq_t, fEq_f, fNe_t, fNe_f, fNot_b, Bool.not_true, Bool.not_false, fIsi_ap, isAdr_i, isAdr_b, isAdr_s, isAdr_l, isAdr_t, isAdr_n, isAdr_c, isK_inti, isK_intb, isK_ints, isK_intl, isK_intt, isK_intn, isK_booli, isK_boolb, isK_bools, isK_booll, isK_boolt, isK_booln, isK_stri, isK_strb, isK_strs, isK_strl, isK_strt, isK_strn, isK_listi, isK_listb, isK_lists, isK_listl, isK_listt, isK_listn, isK_tuplei, isK_tupleb, isK_tuples, isK_tuplel, isK_tuplet, isK_tuplen, isK_listscr, fMax_i, fMin_i, fIsN_n, fIsN_i, fIdx_0, fIdx_1, fIdx_2, fIdx_3, fIdx_4, fIdx_5, fIdx_6, fIdxT_0, fIdxT_1, fIdxT_2, fIdxT_3, fLen_l, fLen_t, fLen_s, fSl_l, fSl_s, fItL_l, fItL_s, fItT_t, mIter_ap, itK_v, mIt1_ap, it1K_v, fRng_1, fRng_2, mFor_t, mFor_f, forK_v, mLc_ap, lcK_v, lcK_e, mAppMv_ap, app1_l, mParN_ap, parK_v, mAsgTz_f, mAsgTz_t, tzK_2, mMut_ap, mutK_0, mut0_appS, mut0_appLa, mut0_ext, mut0_clr, mut0_clrLa, mAsgT_f, mAsgT_t, tK_2, vw_t, vw_f, mFrz_ap, frz_ap, frzK_s, frzK_n, finR_r, finR_nn, finR_nz, List.nil_append, finR_e, Fr.fz, look, dOf_nil, dOf_c, hOf_nil, hOf_c, hid, Option.map_some, Option.map_none, List.set_cons_zero, List.set_cons_succ, List.getElem?_cons_zero, List.getElem?_cons_succ, List.length_map, wipeE, mPut_ap, putK_0, put0_l, put0_la, Int.toNat_natCast, mutK_p, mutI_s, mutP_s, mutQ_app, mutQ_clr, putK_p, putI_s, putP_s, putQ_ok, mSnoc_k, snocK_0, snocK_1, snocK_2, intsD_n, intsD_c, consO_s, dig_n, dig_l, dig_t, digK_s, digF_n, digF_l, digF_t, digFK_s, atI_0, atI_1, atI_2, atI_m1, bury_n, bury_t0, bury_t1, bury_t2, bury_l0, bury_l1, this]) (by simp; omega)
    have e2 : D.lst ((bs.map D.bl).map (fun d => match d with | .bl b => bk [b] | d => d)) = dBR (brow f bs 0) := by
      rw [brow_0]
      unfold dBR
      simp
    unfold dBT m_blocks b_blocks
    simp (disch := first | omega | (simp only [List.length_cons, List.length_nil, List.length_map, List.length_set, List.length_append, List.length_replicate, Nat.zero_add, Nat.reduceAdd] <;> omega) | (simp only [noL, noLs, Bool.and_true, Bool.true_and, noLs_ints]; done) | (refine id ?_; with_unfolding_all rfl)) only [runF_ap, ini, List.replicate_succ, List.replicate_zero, List.length_cons, List.length_nil, List.length_set, Nat.reduceAdd, Nat.reduceSub, Nat.reduceLT, Nat.reduceLeDiff, Nat.zero_add, mIf_ap, brS_t, brS_f, brS_e, mSeq_ap, bindS_n, bindS_r, bindS_b, bindS_c, bindS_e, onE_v, onE_e, asgK_ok, mAsg_t, mAsg_f, mRet_ap, mExpr_t, mExpr_f, mRaise_ap, mNext_ap, mRetN_ap, mPass, mBrk, mCont, mRetV_ap, retK_s, mVar_ap, varK_s, mC_ap, bindE_v, bindE_e, m2_ap, b2_vv, b2_ve, b2_e, m1_ap, mN_ap, nK_i, nK_b, nK_n, nK_s, nK_e, nK_t, noL, noLs, Bool.and_true, Bool.true_and, mLN_ap, lnK_ok, mCons_ap, consA_v, consA_e, consA_ve, mNil_ap, mCall_ap, callK_v, callK_e, mTup_ap, mLst_ap, tupK_v, lstK_v, tupK_e, lstK_e, mAnd_ap, mOr_ap, andK_t, andK_f, orK_t, orK_f, andK_e, orK_e, mIfE_ap, ifK_t, ifK_f, mChain_ap, ch2_v, chK_t, chK_f, mSl_ap, slK_ii, slK_ni, slK_in, slK_nn, mInt_ap, intK_i, fAdd_i, fSub_i, fMul_l, fMul_r, fMod_i, fDiv_i, fPow_18, fPow_20, fPow_3, fShl_i, Int.one_mul, fNeg_i, fLt_t, fLt_f, fLe_t, fLe_f, fGt_t, fGt_f, fGe_t, fGe_f, fEq_t, fEq_f, fNe_t, fNe_f, fNot_b, Bool.not_true, Bool.not_false, fIsi_ap, isAdr_i, isAdr_b, isAdr_s, isAdr_l, isAdr_t, isAdr_n, isAdr_c, isK_inti, isK_intb, isK_ints, isK_intl, isK_intt, isK_intn, isK_booli, isK_boolb, isK_bools, isK_booll, isK_boolt, isK_booln, isK_stri, isK_strb, isK_strs, isK_strl, isK_strt, isK_strn, isK_listi, isK_listb, isK_lists, isK_listl, isK_listt, isK_listn, isK_tuplei, isK_tupleb, isK_tuples, isK_tuplel, isK_tuplet, isK_tuplen, isK_listscr, fMax_i, fMin_i, fIsN_n, fIsN_i, fIdx_0, fIdx_1, fIdx_2, fIdx_3, fIdx_4, fIdx_5, fIdx_6, fIdxT_0, fIdxT_1, fIdxT_2, fIdxT_3, fLen_l, fLen_t, fLen_s, fSl_l, fSl_s, fItL_l, fItL_s, fItT_t, mIter_ap, itK_v, mIt1_ap, it1K_v, fRng_1, fRng_2, mFor_t, mFor_f, forK_v, mLc_ap, lcK_v, lcK_e, mAppMv_ap, app1_l, mParN_ap, parK_v, mAsgTz_f, mAsgTz_t, tzK_2, mMut_ap, mutK_0, mut0_appS, mut0_appLa, mut0_ext, mut0_clr, mut0_clrLa, mAsgT_f, mAsgT_t, tK_2, vw_t, vw_f, mFrz_ap, frz_ap, frzK_s, frzK_n, finR_r, finR_nn, finR_nz, List.nil_append, finR_e, Fr.fz, look, dOf_nil, dOf_c, hOf_nil, hOf_c, hid, Option.map_some, Option.map_none, List.set_cons_zero, List.set_cons_succ, List.getElem?_cons_zero, List.getElem?_cons_succ, List.length_map, wipeE, mPut_ap, putK_0, put0_l, put0_la, Int.toNat_natCast, mutK_p, mutI_s, mutP_s, mutQ_app, mutQ_clr, putK_p, putI_s, putP_s, putQ_ok, mSnoc_k, snocK_0, snocK_1, snocK_2, intsD_n, intsD_c, consO_s, dig_n, dig_l, dig_t, digK_s, digF_n, digF_l, digF_t, digFK_s, atI_0, atI_1, atI_2, atI_m1, bury_n, bury_t0, bury_t1, bury_t2, bury_l0, bury_l1, e, hit, hlc, e2, key]

theorem due_ok (f : Nat) (bs : List Bool) (h2 : 2 ≤ f) (h8 : f ≤ 8) (hn : bs.length ≤ 200) : m__law_due [bL bs, .int (f : Int)] = .val (dBT (btree f bs)) := by
  have hct := counts_ok bs.length f (by omega) h2 h8
  have hll := @lv_len f bs.length h2 (by omega)
  have btl : (btree f bs).length = (lv f bs.length).length := by simp [btree]
  have btg : ∀ (l : Nat) (h : l < (btree f bs).length), (btree f bs)[l] = brow f bs l := fun l h => by simp [btree]
  let cs : List D := (lv f bs.length).map fun (c : Nat) => D.int (c : Int)
  let E : List (List (List Bool)) → Option (Fr × D) → Option (Fr × D) → Option (Fr × D) → Option (Fr × D) → Option (Fr × D) → Env := fun T x4 x5 x6 x7 x8 => [some (.z, bL bs), some (.z, .int (f : Int)), some (.l .n, .lst cs), some (.l (.l .n), .lst (T.map dBR)), x4, x5, x6, x7, x8]
  have inner : ∀ (l : Nat) (T : List (List (List Bool))) (x6 x7 x8 : Option (Fr × D)), l < (lv f bs.length).length → ∃ y6 y7 y8, mLoop (.nm 6) l1__law_due (rng 0 (cl f l bs.length)) (E T (some (.z, .int (0 + (l : Int)))) (some (.l .n, .lst [])) x6 x7 x8) = .next (E T (some (.z, .int (0 + (l : Int)))) (some (.l .n, dBR (brow f bs l))) y6 y7 y8) := by
    intro l T x6 x7 x8 hl
    have hcl : cl f l bs.length ≤ 200 := (cl_le (by omega)).mpr (by
      have := Nat.pow_pos (n := l) (show 0 < f by omega)
      have := Nat.mul_le_mul_left 200 this
      omega)
    refine loop_rng (fun o => ∃ y6 y7 y8, o = .next (E T (some (.z, .int (0 + (l : Int)))) (some (.l .n, dBR (brow f bs l))) y6 y7 y8)) (fun i e => ∃ y6 y7 y8, e = E T (some (.z, .int (0 + (l : Int)))) (some (.l .n, .lst (((brow f bs l).take i).map bk))) y6 y7 y8) ⟨x6, x7, x8, rfl⟩ ?_ ?_
    · rintro i hi e ⟨y6, y7, y8, rfl⟩
      have hr := reach_ok bs.length f l i (by omega) h2 h8 (by omega) (by omega)
      have hpl := place_lt (by omega) hi
      have hc := cut_w bs (i * f ^ l) (f ^ l) (by omega)
      have hw := Nat.pow_pos (n := l) (show 0 < f by omega)
      have hm := block_ok ((bs.drop (i * f ^ l)).take (f ^ l)) (by rw [List.length_take, List.length_drop]; omega)
      have ei : (0 + (i : Int)) = (i : Int) := by omega
      have el : (0 + (l : Int)) = (l : Int) := by omega
      have hi2 : i < (brow f bs l).length := by rw [brow_len]; exact hi
      have ht : ((brow f bs l).take (i + 1)).map bk = ((brow f bs l).take i).map bk ++ [bk ((bs.drop (i * f ^ l)).take (f ^ l))] := by
        rw [List.take_succ_eq_append_getElem hi2, List.map_append]
        simp [brow]
      have hlen : (((brow f bs l).take i).map bk).length < 100000 := by
        rw [List.length_map, List.length_take, brow_len]
        omega
      have hbl : fLen [bL bs] = .val (.int (bs.length : Int)) := by unfold bL; rw [fLen_l, List.length_map]
      have hsl : fSl (bL bs) (some ((i * f ^ l : Nat) : Int)) (some ((min bs.length (i * f ^ l + f ^ l) : Nat) : Int)) = .val (bL ((bs.drop (i * f ^ l)).take (f ^ l))) := by
        unfold bL
        rw [fSl_l, cutG_map, hc]
      refine ⟨by simp [E], ?_⟩
      simp only [E, List.set_cons_zero, List.set_cons_succ]
      rw [el]
      unfold l1__law_due
      simp (disch := first | omega | (simp only [List.length_cons, List.length_nil, List.length_map, List.length_set, List.length_append, List.length_replicate, Nat.zero_add, Nat.reduceAdd] <;> omega) | (simp only [noL, noLs, Bool.and_true, Bool.true_and, noLs_ints]; done) | (refine id ?_; with_unfolding_all rfl)) only [runF_ap, ini, List.replicate_succ, List.replicate_zero, List.length_cons, List.length_nil, List.length_set, Nat.reduceAdd, Nat.reduceSub, Nat.reduceLT, Nat.reduceLeDiff, Nat.zero_add, mIf_ap, brS_t, brS_f, brS_e, mSeq_ap, bindS_n, bindS_r, bindS_b, bindS_c, bindS_e, onE_v, onE_e, asgK_ok, mAsg_t, mAsg_f, mRet_ap, mExpr_t, mExpr_f, mRaise_ap, mNext_ap, mRetN_ap, mPass, mBrk, mCont, mRetV_ap, retK_s, mVar_ap, varK_s, mC_ap, bindE_v, bindE_e, m2_ap, b2_vv, b2_ve, b2_e, m1_ap, mN_ap, nK_i, nK_b, nK_n, nK_s, nK_e, nK_t, noL, noLs, Bool.and_true, Bool.true_and, mLN_ap, lnK_ok, mCons_ap, consA_v, consA_e, consA_ve, mNil_ap, mCall_ap, callK_v, callK_e, mTup_ap, mLst_ap, tupK_v, lstK_v, tupK_e, lstK_e, mAnd_ap, mOr_ap, andK_t, andK_f, orK_t, orK_f, andK_e, orK_e, mIfE_ap, ifK_t, ifK_f, mChain_ap, ch2_v, chK_t, chK_f, mSl_ap, slK_ii, slK_ni, slK_in, slK_nn, mInt_ap, intK_i, fAdd_i, fSub_i, fMul_l, fMul_r, fMod_i, fDiv_i, fPow_18, fPow_20, fPow_3, fShl_i, Int.one_mul, fNeg_i, fLt_t, fLt_f, fLe_t, fLe_f, fGt_t, fGt_f, fGe_t, fGe_f, fEq_t, fEq_f, fNe_t, fNe_f, fNot_b, Bool.not_true, Bool.not_false, fIsi_ap, isAdr_i, isAdr_b, isAdr_s, isAdr_l, isAdr_t, isAdr_n, isAdr_c, isK_inti, isK_intb, isK_ints, isK_intl, isK_intt, isK_intn, isK_booli, isK_boolb, isK_bools, isK_booll, isK_boolt, isK_booln, isK_stri, isK_strb, isK_strs, isK_strl, isK_strt, isK_strn, isK_listi, isK_listb, isK_lists, isK_listl, isK_listt, isK_listn, isK_tuplei, isK_tupleb, isK_tuples, isK_tuplel, isK_tuplet, isK_tuplen, isK_listscr, fMax_i, fMin_i, fIsN_n, fIsN_i, fIdx_0, fIdx_1, fIdx_2, fIdx_3, fIdx_4, fIdx_5, fIdx_6, fIdxT_0, fIdxT_1, fIdxT_2, fIdxT_3, fLen_l, fLen_t, fLen_s, fSl_l, fSl_s, fItL_l, fItL_s, fItT_t, mIter_ap, itK_v, mIt1_ap, it1K_v, fRng_1, fRng_2, mFor_t, mFor_f, forK_v, mLc_ap, lcK_v, lcK_e, mAppMv_ap, app1_l, mParN_ap, parK_v, mAsgTz_f, mAsgTz_t, tzK_2, mMut_ap, mutK_0, mut0_appS, mut0_appLa, mut0_ext, mut0_clr, mut0_clrLa, mAsgT_f, mAsgT_t, tK_2, vw_t, vw_f, mFrz_ap, frz_ap, frzK_s, frzK_n, finR_r, finR_nn, finR_nz, List.nil_append, finR_e, Fr.fz, look, dOf_nil, dOf_c, hOf_nil, hOf_c, hid, Option.map_some, Option.map_none, List.set_cons_zero, List.set_cons_succ, List.getElem?_cons_zero, List.getElem?_cons_succ, List.length_map, wipeE, mPut_ap, putK_0, put0_l, put0_la, Int.toNat_natCast, mutK_p, mutI_s, mutP_s, mutQ_app, mutQ_clr, putK_p, putI_s, putP_s, putQ_ok, mSnoc_k, snocK_0, snocK_1, snocK_2, intsD_n, intsD_c, consO_s, dig_n, dig_l, dig_t, digK_s, digF_n, digF_l, digF_t, digFK_s, atI_0, atI_1, atI_2, atI_m1, bury_n, bury_t0, bury_t1, bury_t2, bury_l0, bury_l1, ei, hbl, hr, hsl, hm]
      exact ⟨_, _, _, by rw [ht]⟩
    · rintro e ⟨y6, y7, y8, rfl⟩
      refine ⟨y6, y7, y8, ?_⟩
      rw [List.take_of_length_le (by rw [brow_len]; omega)]
      rfl
  have outer : ∃ y4 y5 y6 y7 y8, mLoop (.nm 4) l2__law_due (rng 0 (lv f bs.length).length) (E [] none none none none none) = .next (E (btree f bs) y4 y5 y6 y7 y8) := by
    refine loop_rng (fun o => ∃ y4 y5 y6 y7 y8, o = .next (E (btree f bs) y4 y5 y6 y7 y8)) (fun i e => ∃ y4 y5 y6 y7 y8, e = E ((btree f bs).take i) y4 y5 y6 y7 y8) ⟨none, none, none, none, none, rfl⟩ ?_ ?_
    · rintro l hl e ⟨y4, y5, y6, y7, y8, rfl⟩
      obtain ⟨z6, z7, z8, hin⟩ := inner l ((btree f bs).take l) y6 y7 y8 hl
      have ec : fIdx (.lst cs) (.int (0 + (l : Int))) = .val (.int ((cl f l bs.length : Nat) : Int)) := fIdx_get (by omega) (by
        have : (0 + (l : Int)).toNat = l := by omega
        rw [this]
        simp only [cs, List.getElem?_map, List.getElem?_eq_getElem hl, Option.map_some, lv_get (show 0 < f by omega) hl])
      have hcl : cl f l bs.length ≤ 200 := (cl_le (by omega)).mpr (by
        have := Nat.pow_pos (n := l) (show 0 < f by omega)
        have := Nat.mul_le_mul_left 200 this
        omega)
      have hcn : ((cl f l bs.length : Nat) : Int).toNat = cl f l bs.length := by omega
      have hl2 : l < (btree f bs).length := by rw [btl]; exact hl
      have ht : ((btree f bs).take (l + 1)).map dBR = ((btree f bs).take l).map dBR ++ [dBR (brow f bs l)] := by
        rw [List.take_succ_eq_append_getElem hl2, List.map_append, btg l hl2]
        rfl
      have hlen : (((btree f bs).take l).map dBR).length < 100000 := by
        rw [List.length_map, List.length_take, btl]
        omega
      refine ⟨by simp [E], ?_⟩
      simp only [E, List.set_cons_zero, List.set_cons_succ] at hin ⊢
      unfold l2__law_due
      simp (disch := first | omega | (simp only [List.length_cons, List.length_nil, List.length_map, List.length_set, List.length_append, List.length_replicate, Nat.zero_add, Nat.reduceAdd] <;> omega) | (simp only [noL, noLs, Bool.and_true, Bool.true_and, noLs_ints]; done) | (refine id ?_; with_unfolding_all rfl)) only [runF_ap, ini, List.replicate_succ, List.replicate_zero, List.length_cons, List.length_nil, List.length_set, Nat.reduceAdd, Nat.reduceSub, Nat.reduceLT, Nat.reduceLeDiff, Nat.zero_add, mIf_ap, brS_t, brS_f, brS_e, mSeq_ap, bindS_n, bindS_r, bindS_b, bindS_c, bindS_e, onE_v, onE_e, asgK_ok, mAsg_t, mAsg_f, mRet_ap, mExpr_t, mExpr_f, mRaise_ap, mNext_ap, mRetN_ap, mPass, mBrk, mCont, mRetV_ap, retK_s, mVar_ap, varK_s, mC_ap, bindE_v, bindE_e, m2_ap, b2_vv, b2_ve, b2_e, m1_ap, mN_ap, nK_i, nK_b, nK_n, nK_s, nK_e, nK_t, noL, noLs, Bool.and_true, Bool.true_and, mLN_ap, lnK_ok, mCons_ap, consA_v, consA_e, consA_ve, mNil_ap, mCall_ap, callK_v, callK_e, mTup_ap, mLst_ap, tupK_v, lstK_v, tupK_e, lstK_e, mAnd_ap, mOr_ap, andK_t, andK_f, orK_t, orK_f, andK_e, orK_e, mIfE_ap, ifK_t, ifK_f, mChain_ap, ch2_v, chK_t, chK_f, mSl_ap, slK_ii, slK_ni, slK_in, slK_nn, mInt_ap, intK_i, fAdd_i, fSub_i, fMul_l, fMul_r, fMod_i, fDiv_i, fPow_18, fPow_20, fPow_3, fShl_i, Int.one_mul, fNeg_i, fLt_t, fLt_f, fLe_t, fLe_f, fGt_t, fGt_f, fGe_t, fGe_f, fEq_t, fEq_f, fNe_t, fNe_f, fNot_b, Bool.not_true, Bool.not_false, fIsi_ap, isAdr_i, isAdr_b, isAdr_s, isAdr_l, isAdr_t, isAdr_n, isAdr_c, isK_inti, isK_intb, isK_ints, isK_intl, isK_intt, isK_intn, isK_booli, isK_boolb, isK_bools, isK_booll, isK_boolt, isK_booln, isK_stri, isK_strb, isK_strs, isK_strl, isK_strt, isK_strn, isK_listi, isK_listb, isK_lists, isK_listl, isK_listt, isK_listn, isK_tuplei, isK_tupleb, isK_tuples, isK_tuplel, isK_tuplet, isK_tuplen, isK_listscr, fMax_i, fMin_i, fIsN_n, fIsN_i, fIdx_0, fIdx_1, fIdx_2, fIdx_3, fIdx_4, fIdx_5, fIdx_6, fIdxT_0, fIdxT_1, fIdxT_2, fIdxT_3, fLen_l, fLen_t, fLen_s, fSl_l, fSl_s, fItL_l, fItL_s, fItT_t, mIter_ap, itK_v, mIt1_ap, it1K_v, fRng_1, fRng_2, mFor_t, mFor_f, forK_v, mLc_ap, lcK_v, lcK_e, mAppMv_ap, app1_l, mParN_ap, parK_v, mAsgTz_f, mAsgTz_t, tzK_2, mMut_ap, mutK_0, mut0_appS, mut0_appLa, mut0_ext, mut0_clr, mut0_clrLa, mAsgT_f, mAsgT_t, tK_2, vw_t, vw_f, mFrz_ap, frz_ap, frzK_s, frzK_n, finR_r, finR_nn, finR_nz, List.nil_append, finR_e, Fr.fz, look, dOf_nil, dOf_c, hOf_nil, hOf_c, hid, Option.map_some, Option.map_none, List.set_cons_zero, List.set_cons_succ, List.getElem?_cons_zero, List.getElem?_cons_succ, List.length_map, wipeE, mPut_ap, putK_0, put0_l, put0_la, Int.toNat_natCast, mutK_p, mutI_s, mutP_s, mutQ_app, mutQ_clr, putK_p, putI_s, putP_s, putQ_ok, mSnoc_k, snocK_0, snocK_1, snocK_2, intsD_n, intsD_c, consO_s, dig_n, dig_l, dig_t, digK_s, digF_n, digF_l, digF_t, digFK_s, atI_0, atI_1, atI_2, atI_m1, bury_n, bury_t0, bury_t1, bury_t2, bury_l0, bury_l1, ec, hcn, hin]
      exact ⟨_, _, _, _, _, by rw [ht]⟩
    · rintro e ⟨y4, y5, y6, y7, y8, rfl⟩
      refine ⟨y4, y5, y6, y7, y8, ?_⟩
      rw [List.take_of_length_le (by rw [btl]; omega)]
  obtain ⟨y4, y5, y6, y7, y8, ho⟩ := outer
  simp only [E, List.map_nil] at ho
  have hcl : (((lv f bs.length).length : Nat) : Int).toNat = (lv f bs.length).length := by omega
  have hct : m__law_counts [.int ((bs.length : Nat) : Int), .int (f : Int)] = .val (.lst cs) := hct
  have hcsl : cs.length = (lv f bs.length).length := by simp [cs]
  have hbl : fLen [bL bs] = .val (.int (bs.length : Int)) := by unfold bL; rw [fLen_l, List.length_map]
  unfold m__law_due b__law_due dBT
  simp (disch := first | omega | (simp only [List.length_cons, List.length_nil, List.length_map, List.length_set, List.length_append, List.length_replicate, Nat.zero_add, Nat.reduceAdd] <;> omega) | (simp only [noL, noLs, Bool.and_true, Bool.true_and, noLs_ints]; done) | (refine id ?_; with_unfolding_all rfl)) only [runF_ap, ini, List.replicate_succ, List.replicate_zero, List.length_cons, List.length_nil, List.length_set, Nat.reduceAdd, Nat.reduceSub, Nat.reduceLT, Nat.reduceLeDiff, Nat.zero_add, mIf_ap, brS_t, brS_f, brS_e, mSeq_ap, bindS_n, bindS_r, bindS_b, bindS_c, bindS_e, onE_v, onE_e, asgK_ok, mAsg_t, mAsg_f, mRet_ap, mExpr_t, mExpr_f, mRaise_ap, mNext_ap, mRetN_ap, mPass, mBrk, mCont, mRetV_ap, retK_s, mVar_ap, varK_s, mC_ap, bindE_v, bindE_e, m2_ap, b2_vv, b2_ve, b2_e, m1_ap, mN_ap, nK_i, nK_b, nK_n, nK_s, nK_e, nK_t, noL, noLs, Bool.and_true, Bool.true_and, mLN_ap, lnK_ok, mCons_ap, consA_v, consA_e, consA_ve, mNil_ap, mCall_ap, callK_v, callK_e, mTup_ap, mLst_ap, tupK_v, lstK_v, tupK_e, lstK_e, mAnd_ap, mOr_ap, andK_t, andK_f, orK_t, orK_f, andK_e, orK_e, mIfE_ap, ifK_t, ifK_f, mChain_ap, ch2_v, chK_t, chK_f, mSl_ap, slK_ii, slK_ni, slK_in, slK_nn, mInt_ap, intK_i, fAdd_i, fSub_i, fMul_l, fMul_r, fMod_i, fDiv_i, fPow_18, fPow_20, fPow_3, fShl_i, Int.one_mul, fNeg_i, fLt_t, fLt_f, fLe_t, fLe_f, fGt_t, fGt_f, fGe_t, fGe_f, fEq_t, fEq_f, fNe_t, fNe_f, fNot_b, Bool.not_true, Bool.not_false, fIsi_ap, isAdr_i, isAdr_b, isAdr_s, isAdr_l, isAdr_t, isAdr_n, isAdr_c, isK_inti, isK_intb, isK_ints, isK_intl, isK_intt, isK_intn, isK_booli, isK_boolb, isK_bools, isK_booll, isK_boolt, isK_booln, isK_stri, isK_strb, isK_strs, isK_strl, isK_strt, isK_strn, isK_listi, isK_listb, isK_lists, isK_listl, isK_listt, isK_listn, isK_tuplei, isK_tupleb, isK_tuples, isK_tuplel, isK_tuplet, isK_tuplen, isK_listscr, fMax_i, fMin_i, fIsN_n, fIsN_i, fIdx_0, fIdx_1, fIdx_2, fIdx_3, fIdx_4, fIdx_5, fIdx_6, fIdxT_0, fIdxT_1, fIdxT_2, fIdxT_3, fLen_l, fLen_t, fLen_s, fSl_l, fSl_s, fItL_l, fItL_s, fItT_t, mIter_ap, itK_v, mIt1_ap, it1K_v, fRng_1, fRng_2, mFor_t, mFor_f, forK_v, mLc_ap, lcK_v, lcK_e, mAppMv_ap, app1_l, mParN_ap, parK_v, mAsgTz_f, mAsgTz_t, tzK_2, mMut_ap, mutK_0, mut0_appS, mut0_appLa, mut0_ext, mut0_clr, mut0_clrLa, mAsgT_f, mAsgT_t, tK_2, vw_t, vw_f, mFrz_ap, frz_ap, frzK_s, frzK_n, finR_r, finR_nn, finR_nz, List.nil_append, finR_e, Fr.fz, look, dOf_nil, dOf_c, hOf_nil, hOf_c, hid, Option.map_some, Option.map_none, List.set_cons_zero, List.set_cons_succ, List.getElem?_cons_zero, List.getElem?_cons_succ, List.length_map, wipeE, mPut_ap, putK_0, put0_l, put0_la, Int.toNat_natCast, mutK_p, mutI_s, mutP_s, mutQ_app, mutQ_clr, putK_p, putI_s, putP_s, putQ_ok, mSnoc_k, snocK_0, snocK_1, snocK_2, intsD_n, intsD_c, consO_s, dig_n, dig_l, dig_t, digK_s, digF_n, digF_l, digF_t, digFK_s, atI_0, atI_1, atI_2, atI_m1, bury_n, bury_t0, bury_t1, bury_t2, bury_l0, bury_l1, hbl, hct, hcsl, hcl, ho]
theorem right_ok (T : List (List (List Bool))) (hT : T.length ≤ 1000) (hr : ∀ r ∈ T, r.length ≤ 1000) : m__law_right [dBT T, dBT T] = .val (.bl true) := by
  have zz : ∀ (g : List D), fZip [.lst g, .lst g] = .items (g.map fun x => .tup [x, x]) := fun g => by
    have : ∀ g : List D, zipD g g = g.map fun x => .tup [x, x] := fun g => by
      induction g with
      | nil => rfl
      | cons a t ih =>
        unfold zipD at ih ⊢
        rw [List.zipWith_cons_cons, ih]
        rfl
    unfold fZip
    simp only [fItL, this]
  have inner : ∀ (r : List (List Bool)) (x0 x1 x2 x3 : D) (x4 x5 : Option (Fr × D)), r.length ≤ 1000 → ∃ y4 y5, mLoop (.tp [4, 5]) l1__law_right ((r.map bk).map fun x => .tup [x, x]) [some (.z, x0), some (.z, x1), some (.z, x2), some (.z, x3), x4, x5] = .next [some (.z, x0), some (.z, x1), some (.z, x2), some (.z, x3), y4, y5] := by
    intro r x0 x1 x2 x3 x4 x5 hl
    refine loop_run (fun o => ∃ y4 y5, o = .next [some (.z, x0), some (.z, x1), some (.z, x2), some (.z, x3), y4, y5]) (fun _ e => ∃ y4 y5, e = [some (.z, x0), some (.z, x1), some (.z, x2), some (.z, x3), y4, y5]) ⟨_, _, rfl⟩ ?_ (fun e ⟨a, b, h⟩ => ⟨a, b, by rw [h]⟩)
    rintro i hi e ⟨y4, y5, rfl⟩
    have hg : ((r.map bk).map fun x => D.tup [x, x])[i] ∈ ((r.map bk).map fun x => D.tup [x, x]) := List.getElem_mem hi
    generalize ((r.map bk).map fun x => D.tup [x, x])[i] = d at hg
    obtain ⟨_, hm, rfl⟩ := List.mem_map.mp hg
    obtain ⟨b, _, rfl⟩ := List.mem_map.mp hm
    have e2 : m__law_is_block [bk b, bk b] = .val (.bl true) := is_block_ok _ _ _ _
    refine ⟨_, put_tp2 (by simp) (by simp), ?_⟩
    simp only [List.set_cons_zero, List.set_cons_succ]
    unfold l1__law_right
    simp (disch := first | omega | (simp only [List.length_cons, List.length_nil, List.length_map, List.length_set, List.length_append, List.length_replicate, Nat.zero_add, Nat.reduceAdd] <;> omega) | (simp only [noL, noLs, Bool.and_true, Bool.true_and, noLs_ints]; done) | (refine id ?_; with_unfolding_all rfl)) only [runF_ap, ini, List.replicate_succ, List.replicate_zero, List.length_cons, List.length_nil, List.length_set, Nat.reduceAdd, Nat.reduceSub, Nat.reduceLT, Nat.reduceLeDiff, Nat.zero_add, mIf_ap, brS_t, brS_f, brS_e, mSeq_ap, bindS_n, bindS_r, bindS_b, bindS_c, bindS_e, onE_v, onE_e, asgK_ok, mAsg_t, mAsg_f, mRet_ap, mExpr_t, mExpr_f, mRaise_ap, mNext_ap, mRetN_ap, mPass, mBrk, mCont, mRetV_ap, retK_s, mVar_ap, varK_s, mC_ap, bindE_v, bindE_e, m2_ap, b2_vv, b2_ve, b2_e, m1_ap, mN_ap, nK_i, nK_b, nK_n, nK_s, nK_e, nK_t, noL, noLs, Bool.and_true, Bool.true_and, mLN_ap, lnK_ok, mCons_ap, consA_v, consA_e, consA_ve, mNil_ap, mCall_ap, callK_v, callK_e, mTup_ap, mLst_ap, tupK_v, lstK_v, tupK_e, lstK_e, mAnd_ap, mOr_ap, andK_t, andK_f, orK_t, orK_f, andK_e, orK_e, mIfE_ap, ifK_t, ifK_f, mChain_ap, ch2_v, chK_t, chK_f, mSl_ap, slK_ii, slK_ni, slK_in, slK_nn, mInt_ap, intK_i, fAdd_i, fSub_i, fMul_l, fMul_r, fMod_i, fDiv_i, fPow_18, fPow_20, fPow_3, fShl_i, Int.one_mul, fNeg_i, fLt_t, fLt_f, fLe_t, fLe_f, fGt_t, fGt_f, fGe_t, fGe_f, fEq_t, fEq_f, fNe_t, fNe_f, fNot_b, Bool.not_true, Bool.not_false, fIsi_ap, isAdr_i, isAdr_b, isAdr_s, isAdr_l, isAdr_t, isAdr_n, isAdr_c, isK_inti, isK_intb, isK_ints, isK_intl, isK_intt, isK_intn, isK_booli, isK_boolb, isK_bools, isK_booll, isK_boolt, isK_booln, isK_stri, isK_strb, isK_strs, isK_strl, isK_strt, isK_strn, isK_listi, isK_listb, isK_lists, isK_listl, isK_listt, isK_listn, isK_tuplei, isK_tupleb, isK_tuples, isK_tuplel, isK_tuplet, isK_tuplen, isK_listscr, fMax_i, fMin_i, fIsN_n, fIsN_i, fIdx_0, fIdx_1, fIdx_2, fIdx_3, fIdx_4, fIdx_5, fIdx_6, fIdxT_0, fIdxT_1, fIdxT_2, fIdxT_3, fLen_l, fLen_t, fLen_s, fSl_l, fSl_s, fItL_l, fItL_s, fItT_t, mIter_ap, itK_v, mIt1_ap, it1K_v, fRng_1, fRng_2, mFor_t, mFor_f, forK_v, mLc_ap, lcK_v, lcK_e, mAppMv_ap, app1_l, mParN_ap, parK_v, mAsgTz_f, mAsgTz_t, tzK_2, mMut_ap, mutK_0, mut0_appS, mut0_appLa, mut0_ext, mut0_clr, mut0_clrLa, mAsgT_f, mAsgT_t, tK_2, vw_t, vw_f, mFrz_ap, frz_ap, frzK_s, frzK_n, finR_r, finR_nn, finR_nz, List.nil_append, finR_e, Fr.fz, look, dOf_nil, dOf_c, hOf_nil, hOf_c, hid, Option.map_some, Option.map_none, List.set_cons_zero, List.set_cons_succ, List.getElem?_cons_zero, List.getElem?_cons_succ, List.length_map, wipeE, mPut_ap, putK_0, put0_l, put0_la, Int.toNat_natCast, mutK_p, mutI_s, mutP_s, mutQ_app, mutQ_clr, putK_p, putI_s, putP_s, putQ_ok, mSnoc_k, snocK_0, snocK_1, snocK_2, intsD_n, intsD_c, consO_s, dig_n, dig_l, dig_t, digK_s, digF_n, digF_l, digF_t, digFK_s, atI_0, atI_1, atI_2, atI_m1, bury_n, bury_t0, bury_t1, bury_t2, bury_l0, bury_l1, e2]
    exact ⟨_, _, rfl⟩
  have outer : ∃ y2 y3 y4 y5, mLoop (.tp [2, 3]) l2__law_right ((T.map dBR).map fun x => .tup [x, x]) [some (.z, dBT T), some (.z, dBT T), none, none, none, none] = .next [some (.z, dBT T), some (.z, dBT T), y2, y3, y4, y5] := by
    refine loop_run (fun o => ∃ y2 y3 y4 y5, o = .next [some (.z, dBT T), some (.z, dBT T), y2, y3, y4, y5]) (fun _ e => ∃ y2 y3 y4 y5, e = [some (.z, dBT T), some (.z, dBT T), y2, y3, y4, y5]) ⟨_, _, _, _, rfl⟩ ?_ (fun e ⟨a, b, c, d, h⟩ => ⟨a, b, c, d, by rw [h]⟩)
    rintro i hi e ⟨y2, y3, y4, y5, rfl⟩
    have hg : ((T.map dBR).map fun x => D.tup [x, x])[i] ∈ ((T.map dBR).map fun x => D.tup [x, x]) := List.getElem_mem hi
    generalize ((T.map dBR).map fun x => D.tup [x, x])[i] = d at hg
    obtain ⟨_, hm, rfl⟩ := List.mem_map.mp hg
    obtain ⟨r, hrm, rfl⟩ := List.mem_map.mp hm
    refine ⟨_, put_tp2 (by simp) (by simp), ?_⟩
    simp only [List.set_cons_zero, List.set_cons_succ]
    have e1 : fLen [dBR r] = .val (.int (r.length : Int)) := by unfold dBR; rw [fLen_l, List.length_map]
    have e2 : isKd .list (dBR r) = true := rfl
    have e3 : fNe (.int (r.length : Int)) (.int (r.length : Int)) = .val (.bl false) := fNe_refl rfl
    have e4 : fZip [dBR r, dBR r] = .items ((r.map bk).map fun x => .tup [x, x]) := zz _
    obtain ⟨z4, z5, hin⟩ := inner r (dBT T) (dBT T) (dBR r) (dBR r) y4 y5 (hr r hrm)
    unfold l2__law_right
    simp (disch := first | omega | (simp only [List.length_cons, List.length_nil, List.length_map, List.length_set, List.length_append, List.length_replicate, Nat.zero_add, Nat.reduceAdd] <;> omega) | (simp only [noL, noLs, Bool.and_true, Bool.true_and, noLs_ints]; done) | (refine id ?_; with_unfolding_all rfl)) only [runF_ap, ini, List.replicate_succ, List.replicate_zero, List.length_cons, List.length_nil, List.length_set, Nat.reduceAdd, Nat.reduceSub, Nat.reduceLT, Nat.reduceLeDiff, Nat.zero_add, mIf_ap, brS_t, brS_f, brS_e, mSeq_ap, bindS_n, bindS_r, bindS_b, bindS_c, bindS_e, onE_v, onE_e, asgK_ok, mAsg_t, mAsg_f, mRet_ap, mExpr_t, mExpr_f, mRaise_ap, mNext_ap, mRetN_ap, mPass, mBrk, mCont, mRetV_ap, retK_s, mVar_ap, varK_s, mC_ap, bindE_v, bindE_e, m2_ap, b2_vv, b2_ve, b2_e, m1_ap, mN_ap, nK_i, nK_b, nK_n, nK_s, nK_e, nK_t, noL, noLs, Bool.and_true, Bool.true_and, mLN_ap, lnK_ok, mCons_ap, consA_v, consA_e, consA_ve, mNil_ap, mCall_ap, callK_v, callK_e, mTup_ap, mLst_ap, tupK_v, lstK_v, tupK_e, lstK_e, mAnd_ap, mOr_ap, andK_t, andK_f, orK_t, orK_f, andK_e, orK_e, mIfE_ap, ifK_t, ifK_f, mChain_ap, ch2_v, chK_t, chK_f, mSl_ap, slK_ii, slK_ni, slK_in, slK_nn, mInt_ap, intK_i, fAdd_i, fSub_i, fMul_l, fMul_r, fMod_i, fDiv_i, fPow_18, fPow_20, fPow_3, fShl_i, Int.one_mul, fNeg_i, fLt_t, fLt_f, fLe_t, fLe_f, fGt_t, fGt_f, fGe_t, fGe_f, fEq_t, fEq_f, fNe_t, fNe_f, fNot_b, Bool.not_true, Bool.not_false, fIsi_ap, isAdr_i, isAdr_b, isAdr_s, isAdr_l, isAdr_t, isAdr_n, isAdr_c, isK_inti, isK_intb, isK_ints, isK_intl, isK_intt, isK_intn, isK_booli, isK_boolb, isK_bools, isK_booll, isK_boolt, isK_booln, isK_stri, isK_strb, isK_strs, isK_strl, isK_strt, isK_strn, isK_listi, isK_listb, isK_lists, isK_listl, isK_listt, isK_listn, isK_tuplei, isK_tupleb, isK_tuples, isK_tuplel, isK_tuplet, isK_tuplen, isK_listscr, fMax_i, fMin_i, fIsN_n, fIsN_i, fIdx_0, fIdx_1, fIdx_2, fIdx_3, fIdx_4, fIdx_5, fIdx_6, fIdxT_0, fIdxT_1, fIdxT_2, fIdxT_3, fLen_l, fLen_t, fLen_s, fSl_l, fSl_s, fItL_l, fItL_s, fItT_t, mIter_ap, itK_v, mIt1_ap, it1K_v, fRng_1, fRng_2, mFor_t, mFor_f, forK_v, mLc_ap, lcK_v, lcK_e, mAppMv_ap, app1_l, mParN_ap, parK_v, mAsgTz_f, mAsgTz_t, tzK_2, mMut_ap, mutK_0, mut0_appS, mut0_appLa, mut0_ext, mut0_clr, mut0_clrLa, mAsgT_f, mAsgT_t, tK_2, vw_t, vw_f, mFrz_ap, frz_ap, frzK_s, frzK_n, finR_r, finR_nn, finR_nz, List.nil_append, finR_e, Fr.fz, look, dOf_nil, dOf_c, hOf_nil, hOf_c, hid, Option.map_some, Option.map_none, List.set_cons_zero, List.set_cons_succ, List.getElem?_cons_zero, List.getElem?_cons_succ, List.length_map, wipeE, mPut_ap, putK_0, put0_l, put0_la, Int.toNat_natCast, mutK_p, mutI_s, mutP_s, mutQ_app, mutQ_clr, putK_p, putI_s, putP_s, putQ_ok, mSnoc_k, snocK_0, snocK_1, snocK_2, intsD_n, intsD_c, consO_s, dig_n, dig_l, dig_t, digK_s, digF_n, digF_l, digF_t, digFK_s, atI_0, atI_1, atI_2, atI_m1, bury_n, bury_t0, bury_t1, bury_t2, bury_l0, bury_l1, e1, e2, e3, e4, hin]
    exact ⟨_, _, _, _, rfl⟩
  obtain ⟨y2, y3, y4, y5, ho⟩ := outer
  have e1 : fLen [dBT T] = .val (.int (T.length : Int)) := by unfold dBT; rw [fLen_l, List.length_map]
  have e2 : isKd .list (dBT T) = true := rfl
  have e3 : fNe (.int (T.length : Int)) (.int (T.length : Int)) = .val (.bl false) := fNe_refl rfl
  have e4 : fZip [dBT T, dBT T] = .items ((T.map dBR).map fun x => .tup [x, x]) := zz _
  unfold m__law_right b__law_right
  simp (disch := first | omega | (simp only [List.length_cons, List.length_nil, List.length_map, List.length_set, List.length_append, List.length_replicate, Nat.zero_add, Nat.reduceAdd] <;> omega) | (simp only [noL, noLs, Bool.and_true, Bool.true_and, noLs_ints]; done) | (refine id ?_; with_unfolding_all rfl)) only [runF_ap, ini, List.replicate_succ, List.replicate_zero, List.length_cons, List.length_nil, List.length_set, Nat.reduceAdd, Nat.reduceSub, Nat.reduceLT, Nat.reduceLeDiff, Nat.zero_add, mIf_ap, brS_t, brS_f, brS_e, mSeq_ap, bindS_n, bindS_r, bindS_b, bindS_c, bindS_e, onE_v, onE_e, asgK_ok, mAsg_t, mAsg_f, mRet_ap, mExpr_t, mExpr_f, mRaise_ap, mNext_ap, mRetN_ap, mPass, mBrk, mCont, mRetV_ap, retK_s, mVar_ap, varK_s, mC_ap, bindE_v, bindE_e, m2_ap, b2_vv, b2_ve, b2_e, m1_ap, mN_ap, nK_i, nK_b, nK_n, nK_s, nK_e, nK_t, noL, noLs, Bool.and_true, Bool.true_and, mLN_ap, lnK_ok, mCons_ap, consA_v, consA_e, consA_ve, mNil_ap, mCall_ap, callK_v, callK_e, mTup_ap, mLst_ap, tupK_v, lstK_v, tupK_e, lstK_e, mAnd_ap, mOr_ap, andK_t, andK_f, orK_t, orK_f, andK_e, orK_e, mIfE_ap, ifK_t, ifK_f, mChain_ap, ch2_v, chK_t, chK_f, mSl_ap, slK_ii, slK_ni, slK_in, slK_nn, mInt_ap, intK_i, fAdd_i, fSub_i, fMul_l, fMul_r, fMod_i, fDiv_i, fPow_18, fPow_20, fPow_3, fShl_i, Int.one_mul, fNeg_i, fLt_t, fLt_f, fLe_t, fLe_f, fGt_t, fGt_f, fGe_t, fGe_f, fEq_t, fEq_f, fNe_t, fNe_f, fNot_b, Bool.not_true, Bool.not_false, fIsi_ap, isAdr_i, isAdr_b, isAdr_s, isAdr_l, isAdr_t, isAdr_n, isAdr_c, isK_inti, isK_intb, isK_ints, isK_intl, isK_intt, isK_intn, isK_booli, isK_boolb, isK_bools, isK_booll, isK_boolt, isK_booln, isK_stri, isK_strb, isK_strs, isK_strl, isK_strt, isK_strn, isK_listi, isK_listb, isK_lists, isK_listl, isK_listt, isK_listn, isK_tuplei, isK_tupleb, isK_tuples, isK_tuplel, isK_tuplet, isK_tuplen, isK_listscr, fMax_i, fMin_i, fIsN_n, fIsN_i, fIdx_0, fIdx_1, fIdx_2, fIdx_3, fIdx_4, fIdx_5, fIdx_6, fIdxT_0, fIdxT_1, fIdxT_2, fIdxT_3, fLen_l, fLen_t, fLen_s, fSl_l, fSl_s, fItL_l, fItL_s, fItT_t, mIter_ap, itK_v, mIt1_ap, it1K_v, fRng_1, fRng_2, mFor_t, mFor_f, forK_v, mLc_ap, lcK_v, lcK_e, mAppMv_ap, app1_l, mParN_ap, parK_v, mAsgTz_f, mAsgTz_t, tzK_2, mMut_ap, mutK_0, mut0_appS, mut0_appLa, mut0_ext, mut0_clr, mut0_clrLa, mAsgT_f, mAsgT_t, tK_2, vw_t, vw_f, mFrz_ap, frz_ap, frzK_s, frzK_n, finR_r, finR_nn, finR_nz, List.nil_append, finR_e, Fr.fz, look, dOf_nil, dOf_c, hOf_nil, hOf_c, hid, Option.map_some, Option.map_none, List.set_cons_zero, List.set_cons_succ, List.getElem?_cons_zero, List.getElem?_cons_succ, List.length_map, wipeE, mPut_ap, putK_0, put0_l, put0_la, Int.toNat_natCast, mutK_p, mutI_s, mutP_s, mutQ_app, mutQ_clr, putK_p, putI_s, putP_s, putQ_ok, mSnoc_k, snocK_0, snocK_1, snocK_2, intsD_n, intsD_c, consO_s, dig_n, dig_l, dig_t, digK_s, digF_n, digF_l, digF_t, digFK_s, atI_0, atI_1, atI_2, atI_m1, bury_n, bury_t0, bury_t1, bury_t2, bury_l0, bury_l1, e1, e2, e3, e4, ho]

theorem okP_dBR {k : Nat} {r : List (List Bool)} : okP (k + 2) (dBR r) = true := by
  unfold dBR
  rw [okP]
  induction r with
  | nil => rfl
  | cons b t ih =>
    rw [List.map_cons, okPs, ih]
    rfl
theorem law_true : ∀ ns : List Int, ns.length ≤ 63 → m_law [.scr ns] = .val (.bl true) := fun ns _ => by
  obtain ⟨xs, hx, hxl⟩ := empties_ok ns 0 200 (by decide) (by decide) (by decide)
  obtain ⟨f1, hf1, a1, b1⟩ := fan_ok ns 1 (by decide) (by decide)
  obtain ⟨f2, hf2, a2, b2⟩ := fan_ok ns 2 (by decide) (by decide)
  have hx : m__law_empties [.scr ns, .int 0, .int 200] = .val (bL xs) := hx
  have tl : ∀ (f : Nat), 2 ≤ f → ∀ ys : List Bool, ys.length ≤ 200 → (btree f ys).length ≤ 1000 ∧ ∀ r ∈ btree f ys, r.length ≤ 1000 := fun f h2 ys hy => by
    have hll := @lv_len f ys.length h2 (by omega)
    refine ⟨by simp [btree]; omega, fun r hr => ?_⟩
    obtain ⟨l, _, rfl⟩ := List.mem_map.mp hr
    rw [brow_len]
    have := @brow_le f l ys h2
    omega
  have rt : ∀ (f : Nat), 2 ≤ f → ∀ ys : List Bool, ys.length ≤ 200 → m__law_right [dBT (btree f ys), dBT (btree f ys)] = .val (.bl true) := fun f h2 ys hy => right_ok _ (tl f h2 ys hy).1 (tl f h2 ys hy).2
  let E : Option (Fr × D) → Option (Fr × D) → Option (Fr × D) → Env := fun a b c => [some (.z, .scr ns), some (.l .n, bL xs), some (.l .n, bL xs), a, b, c, none, none]
  have turn : ∀ (f : Nat), 2 ≤ f → f ≤ 8 → ∀ b c, ∃ y4 y5, l2_law (E (some (.z, .int (f : Int))) b c) = .next (E (some (.z, .int (f : Int))) y4 y5) := by
    intro f h2 h8 b c
    have hd := due_ok f xs h2 h8 (by omega)
    have hb := blocks_ok f xs h2 h8 (by omega)
    have hr := rt f h2 xs (by omega)
    have hfb := @forB_next 5 6 l1_law [some (.z, .scr ns), some (.l .n, bL xs), some (.l .n, bL xs), some (.z, .int (f : Int)), some (.l (.l .n), dBT (btree f xs)), some (.l (.l .n), dBT (btree f xs)), none, none] .n (fun _ => []) ((btree f xs).map fun r => r.map bk) (by decide) rfl (by
      show some (some (Fr.l (.l .n), dBT (btree f xs))) = _
      unfold dBT dBR
      rw [List.map_map]
      rfl) (fun b a ds _ => by
      unfold l1_law
      simp only [List.set_cons_zero, List.set_cons_succ]
      simp (disch := first | omega | (simp only [List.length_cons, List.length_nil, List.length_map, List.length_set, List.length_append, List.length_replicate, Nat.zero_add, Nat.reduceAdd] <;> omega) | (simp only [noL, noLs, Bool.and_true, Bool.true_and, noLs_ints]; done) | (refine id ?_; with_unfolding_all rfl)) only [runF_ap, ini, List.replicate_succ, List.replicate_zero, List.length_cons, List.length_nil, List.length_set, Nat.reduceAdd, Nat.reduceSub, Nat.reduceLT, Nat.reduceLeDiff, Nat.zero_add, mIf_ap, brS_t, brS_f, brS_e, mSeq_ap, bindS_n, bindS_r, bindS_b, bindS_c, bindS_e, onE_v, onE_e, asgK_ok, mAsg_t, mAsg_f, mRet_ap, mExpr_t, mExpr_f, mRaise_ap, mNext_ap, mRetN_ap, mPass, mBrk, mCont, mRetV_ap, retK_s, mVar_ap, varK_s, mC_ap, bindE_v, bindE_e, m2_ap, b2_vv, b2_ve, b2_e, m1_ap, mN_ap, nK_i, nK_b, nK_n, nK_s, nK_e, nK_t, noL, noLs, Bool.and_true, Bool.true_and, mLN_ap, lnK_ok, mCons_ap, consA_v, consA_e, consA_ve, mNil_ap, mCall_ap, callK_v, callK_e, mTup_ap, mLst_ap, tupK_v, lstK_v, tupK_e, lstK_e, mAnd_ap, mOr_ap, andK_t, andK_f, orK_t, orK_f, andK_e, orK_e, mIfE_ap, ifK_t, ifK_f, mChain_ap, ch2_v, chK_t, chK_f, mSl_ap, slK_ii, slK_ni, slK_in, slK_nn, mInt_ap, intK_i, fAdd_i, fSub_i, fMul_l, fMul_r, fMod_i, fDiv_i, fPow_18, fPow_20, fPow_3, fShl_i, Int.one_mul, fNeg_i, fLt_t, fLt_f, fLe_t, fLe_f, fGt_t, fGt_f, fGe_t, fGe_f, fEq_t, fEq_f, fNe_t, fNe_f, fNot_b, Bool.not_true, Bool.not_false, fIsi_ap, isAdr_i, isAdr_b, isAdr_s, isAdr_l, isAdr_t, isAdr_n, isAdr_c, isK_inti, isK_intb, isK_ints, isK_intl, isK_intt, isK_intn, isK_booli, isK_boolb, isK_bools, isK_booll, isK_boolt, isK_booln, isK_stri, isK_strb, isK_strs, isK_strl, isK_strt, isK_strn, isK_listi, isK_listb, isK_lists, isK_listl, isK_listt, isK_listn, isK_tuplei, isK_tupleb, isK_tuples, isK_tuplel, isK_tuplet, isK_tuplen, isK_listscr, fMax_i, fMin_i, fIsN_n, fIsN_i, fIdx_0, fIdx_1, fIdx_2, fIdx_3, fIdx_4, fIdx_5, fIdx_6, fIdxT_0, fIdxT_1, fIdxT_2, fIdxT_3, fLen_l, fLen_t, fLen_s, fSl_l, fSl_s, fItL_l, fItL_s, fItT_t, mIter_ap, itK_v, mIt1_ap, it1K_v, fRng_1, fRng_2, mFor_t, mFor_f, forK_v, mLc_ap, lcK_v, lcK_e, mAppMv_ap, app1_l, mParN_ap, parK_v, mAsgTz_f, mAsgTz_t, tzK_2, mMut_ap, mutK_0, mut0_appS, mut0_appLa, mut0_ext, mut0_clr, mut0_clrLa, mAsgT_f, mAsgT_t, tK_2, vw_t, vw_f, mFrz_ap, frz_ap, frzK_s, frzK_n, finR_r, finR_nn, finR_nz, List.nil_append, finR_e, Fr.fz, look, dOf_nil, dOf_c, hOf_nil, hOf_c, hid, Option.map_some, Option.map_none, List.set_cons_zero, List.set_cons_succ, List.getElem?_cons_zero, List.getElem?_cons_succ, List.length_map, wipeE, mPut_ap, putK_0, put0_l, put0_la, Int.toNat_natCast, mutK_p, mutI_s, mutP_s, mutQ_app, mutQ_clr, putK_p, putI_s, putP_s, putQ_ok, mSnoc_k, snocK_0, snocK_1, snocK_2, intsD_n, intsD_c, consO_s, dig_n, dig_l, dig_t, digK_s, digF_n, digF_l, digF_t, digFK_s, atI_0, atI_1, atI_2, atI_m1, bury_n, bury_t0, bury_t1, bury_t2, bury_l0, bury_l1])
    simp only [List.set_cons_zero, List.set_cons_succ] at hfb
    refine ⟨some (.l (.l .n), dBT (btree f xs)), some (.l (.l .n), .lst (((((btree f xs).map fun r => r.map bk).map fun _ => [])).map D.lst)), ?_⟩
    simp only [E]
    unfold l2_law
    simp (disch := first | omega | (simp only [List.length_cons, List.length_nil, List.length_map, List.length_set, List.length_append, List.length_replicate, Nat.zero_add, Nat.reduceAdd] <;> omega) | (simp only [noL, noLs, Bool.and_true, Bool.true_and, noLs_ints]; done) | (refine id ?_; with_unfolding_all rfl)) only [runF_ap, ini, List.replicate_succ, List.replicate_zero, List.length_cons, List.length_nil, List.length_set, Nat.reduceAdd, Nat.reduceSub, Nat.reduceLT, Nat.reduceLeDiff, Nat.zero_add, mIf_ap, brS_t, brS_f, brS_e, mSeq_ap, bindS_n, bindS_r, bindS_b, bindS_c, bindS_e, onE_v, onE_e, asgK_ok, mAsg_t, mAsg_f, mRet_ap, mExpr_t, mExpr_f, mRaise_ap, mNext_ap, mRetN_ap, mPass, mBrk, mCont, mRetV_ap, retK_s, mVar_ap, varK_s, mC_ap, bindE_v, bindE_e, m2_ap, b2_vv, b2_ve, b2_e, m1_ap, mN_ap, nK_i, nK_b, nK_n, nK_s, nK_e, nK_t, noL, noLs, Bool.and_true, Bool.true_and, mLN_ap, lnK_ok, mCons_ap, consA_v, consA_e, consA_ve, mNil_ap, mCall_ap, callK_v, callK_e, mTup_ap, mLst_ap, tupK_v, lstK_v, tupK_e, lstK_e, mAnd_ap, mOr_ap, andK_t, andK_f, orK_t, orK_f, andK_e, orK_e, mIfE_ap, ifK_t, ifK_f, mChain_ap, ch2_v, chK_t, chK_f, mSl_ap, slK_ii, slK_ni, slK_in, slK_nn, mInt_ap, intK_i, fAdd_i, fSub_i, fMul_l, fMul_r, fMod_i, fDiv_i, fPow_18, fPow_20, fPow_3, fShl_i, Int.one_mul, fNeg_i, fLt_t, fLt_f, fLe_t, fLe_f, fGt_t, fGt_f, fGe_t, fGe_f, fEq_t, fEq_f, fNe_t, fNe_f, fNot_b, Bool.not_true, Bool.not_false, fIsi_ap, isAdr_i, isAdr_b, isAdr_s, isAdr_l, isAdr_t, isAdr_n, isAdr_c, isK_inti, isK_intb, isK_ints, isK_intl, isK_intt, isK_intn, isK_booli, isK_boolb, isK_bools, isK_booll, isK_boolt, isK_booln, isK_stri, isK_strb, isK_strs, isK_strl, isK_strt, isK_strn, isK_listi, isK_listb, isK_lists, isK_listl, isK_listt, isK_listn, isK_tuplei, isK_tupleb, isK_tuples, isK_tuplel, isK_tuplet, isK_tuplen, isK_listscr, fMax_i, fMin_i, fIsN_n, fIsN_i, fIdx_0, fIdx_1, fIdx_2, fIdx_3, fIdx_4, fIdx_5, fIdx_6, fIdxT_0, fIdxT_1, fIdxT_2, fIdxT_3, fLen_l, fLen_t, fLen_s, fSl_l, fSl_s, fItL_l, fItL_s, fItT_t, mIter_ap, itK_v, mIt1_ap, it1K_v, fRng_1, fRng_2, mFor_t, mFor_f, forK_v, mLc_ap, lcK_v, lcK_e, mAppMv_ap, app1_l, mParN_ap, parK_v, mAsgTz_f, mAsgTz_t, tzK_2, mMut_ap, mutK_0, mut0_appS, mut0_appLa, mut0_ext, mut0_clr, mut0_clrLa, mAsgT_f, mAsgT_t, tK_2, vw_t, vw_f, mFrz_ap, frz_ap, frzK_s, frzK_n, finR_r, finR_nn, finR_nz, List.nil_append, finR_e, Fr.fz, look, dOf_nil, dOf_c, hOf_nil, hOf_c, hid, Option.map_some, Option.map_none, List.set_cons_zero, List.set_cons_succ, List.getElem?_cons_zero, List.getElem?_cons_succ, List.length_map, wipeE, mPut_ap, putK_0, put0_l, put0_la, Int.toNat_natCast, mutK_p, mutI_s, mutP_s, mutQ_app, mutQ_clr, putK_p, putI_s, putP_s, putQ_ok, mSnoc_k, snocK_0, snocK_1, snocK_2, intsD_n, intsD_c, consO_s, dig_n, dig_l, dig_t, digK_s, digF_n, digF_l, digF_t, digFK_s, atI_0, atI_1, atI_2, atI_m1, bury_n, bury_t0, bury_t1, bury_t2, bury_l0, bury_l1, hd, hb, hr, hfb]
  have key : ∃ a b c, mLoop (.nm 3) l2_law [.int (f1 : Int), .int (f2 : Int), .int (f1 : Int)] (E none none none) = .next (E a b c) := by
    refine loop_run (fun o => ∃ a b c, o = .next (E a b c)) (fun _ e => ∃ a b c, e = E a b c) ⟨_, _, _, rfl⟩ ?_ (fun e ⟨a, b, c, h⟩ => ⟨a, b, c, by rw [h]⟩)
    rintro i hi e ⟨a, b, c, rfl⟩
    have hg : [D.int (f1 : Int), .int (f2 : Int), .int (f1 : Int)][i] ∈ [D.int (f1 : Int), .int (f2 : Int), .int (f1 : Int)] := List.getElem_mem hi
    generalize [D.int (f1 : Int), .int (f2 : Int), .int (f1 : Int)][i] = d at hg
    obtain ⟨f, rfl, h2, h8⟩ : ∃ f : Nat, d = .int (f : Int) ∧ 2 ≤ f ∧ f ≤ 8 := by
      simp only [List.mem_cons, List.not_mem_nil, or_false] at hg
      rcases hg with rfl | rfl | rfl
      · exact ⟨_, rfl, a1, b1⟩
      · exact ⟨_, rfl, a2, b2⟩
      · exact ⟨_, rfl, a1, b1⟩
    refine ⟨(E a b c).set 3 (some (.z, .int (f : Int))), if_pos (e := none) (show 3 < (E a b c).length by simp [E]), ?_⟩
    obtain ⟨y4, y5, h⟩ := turn f h2 h8 b c
    simp only [E, List.set_cons_zero, List.set_cons_succ] at h ⊢
    rw [h]
    exact ⟨_, _, _, rfl⟩
  obtain ⟨a, b, c, key⟩ := key
  simp only [E] at key
  have l1 : fList [bL xs] = .val (bL xs) := rfl
  have nL : noLs (xs.map D.bl) = true := noLs_bls xs
  have q1 : fEq (.lst []) (.lst []) = .val (.bl true) := fEq_refl rfl
  have e1 := blocks_ok 2 [] (by decide) (by decide) (by decide)
  have e1 : m_blocks [.lst [], .int 2] = .val (.lst []) := e1
  have e2 := blocks_ok 8 [true] (by decide) (by decide) (by decide)
  have e3 : dBT (btree 8 [true]) = .lst [.lst [.tup [.int 1, .int 1, .int 1, .int 1]]] := rfl
  rw [e3] at e2
  have e2 : m_blocks [.lst [.bl true], .int 8] = .val (.lst [.lst [.tup [.int 1, .int 1, .int 1, .int 1]]]) := e2
  have q2 : fEq (.lst [.lst [.tup [.int 1, .int 1, .int 1, .int 1]]]) (.lst [.lst [.tup [.int 1, .int 1, .int 1, .int 1]]]) = .val (.bl true) := fEq_refl rfl
  have q3 : ∀ ys : List Bool, fEq (bL ys) (bL ys) = .val (.bl true) := fun ys => fEq_refl okP_bL
  have hmL : lnK (.val (bL xs)) = .val (bL xs) := by unfold bL; exact lnK_ok nL
  by_cases h0 : xs = []
  · subst h0
    have q4 : fNe (bL []) (.lst []) = .val (.bl false) := rfl
    unfold m_law b_law
    simp (disch := first | omega | (simp only [List.length_cons, List.length_nil, List.length_map, List.length_set, List.length_append, List.length_replicate, Nat.zero_add, Nat.reduceAdd] <;> omega) | (simp only [noL, noLs, Bool.and_true, Bool.true_and, noLs_ints]; done) | (refine id ?_; with_unfolding_all rfl)) only [runF_ap, ini, List.replicate_succ, List.replicate_zero, List.length_cons, List.length_nil, List.length_set, Nat.reduceAdd, Nat.reduceSub, Nat.reduceLT, Nat.reduceLeDiff, Nat.zero_add, mIf_ap, brS_t, brS_f, brS_e, mSeq_ap, bindS_n, bindS_r, bindS_b, bindS_c, bindS_e, onE_v, onE_e, asgK_ok, mAsg_t, mAsg_f, mRet_ap, mExpr_t, mExpr_f, mRaise_ap, mNext_ap, mRetN_ap, mPass, mBrk, mCont, mRetV_ap, retK_s, mVar_ap, varK_s, mC_ap, bindE_v, bindE_e, m2_ap, b2_vv, b2_ve, b2_e, m1_ap, mN_ap, nK_i, nK_b, nK_n, nK_s, nK_e, nK_t, noL, noLs, Bool.and_true, Bool.true_and, mLN_ap, lnK_ok, mCons_ap, consA_v, consA_e, consA_ve, mNil_ap, mCall_ap, callK_v, callK_e, mTup_ap, mLst_ap, tupK_v, lstK_v, tupK_e, lstK_e, mAnd_ap, mOr_ap, andK_t, andK_f, orK_t, orK_f, andK_e, orK_e, mIfE_ap, ifK_t, ifK_f, mChain_ap, ch2_v, chK_t, chK_f, mSl_ap, slK_ii, slK_ni, slK_in, slK_nn, mInt_ap, intK_i, fAdd_i, fSub_i, fMul_l, fMul_r, fMod_i, fDiv_i, fPow_18, fPow_20, fPow_3, fShl_i, Int.one_mul, fNeg_i, fLt_t, fLt_f, fLe_t, fLe_f, fGt_t, fGt_f, fGe_t, fGe_f, fEq_t, fEq_f, fNe_t, fNe_f, fNot_b, Bool.not_true, Bool.not_false, fIsi_ap, isAdr_i, isAdr_b, isAdr_s, isAdr_l, isAdr_t, isAdr_n, isAdr_c, isK_inti, isK_intb, isK_ints, isK_intl, isK_intt, isK_intn, isK_booli, isK_boolb, isK_bools, isK_booll, isK_boolt, isK_booln, isK_stri, isK_strb, isK_strs, isK_strl, isK_strt, isK_strn, isK_listi, isK_listb, isK_lists, isK_listl, isK_listt, isK_listn, isK_tuplei, isK_tupleb, isK_tuples, isK_tuplel, isK_tuplet, isK_tuplen, isK_listscr, fMax_i, fMin_i, fIsN_n, fIsN_i, fIdx_0, fIdx_1, fIdx_2, fIdx_3, fIdx_4, fIdx_5, fIdx_6, fIdxT_0, fIdxT_1, fIdxT_2, fIdxT_3, fLen_l, fLen_t, fLen_s, fSl_l, fSl_s, fItL_l, fItL_s, fItT_t, mIter_ap, itK_v, mIt1_ap, it1K_v, fRng_1, fRng_2, mFor_t, mFor_f, forK_v, mLc_ap, lcK_v, lcK_e, mAppMv_ap, app1_l, mParN_ap, parK_v, mAsgTz_f, mAsgTz_t, tzK_2, mMut_ap, mutK_0, mut0_appS, mut0_appLa, mut0_ext, mut0_clr, mut0_clrLa, mAsgT_f, mAsgT_t, tK_2, vw_t, vw_f, mFrz_ap, frz_ap, frzK_s, frzK_n, finR_r, finR_nn, finR_nz, List.nil_append, finR_e, Fr.fz, look, dOf_nil, dOf_c, hOf_nil, hOf_c, hid, Option.map_some, Option.map_none, List.set_cons_zero, List.set_cons_succ, List.getElem?_cons_zero, List.getElem?_cons_succ, List.length_map, wipeE, mPut_ap, putK_0, put0_l, put0_la, Int.toNat_natCast, mutK_p, mutI_s, mutP_s, mutQ_app, mutQ_clr, putK_p, putI_s, putP_s, putQ_ok, mSnoc_k, snocK_0, snocK_1, snocK_2, intsD_n, intsD_c, consO_s, dig_n, dig_l, dig_t, digK_s, digF_n, digF_l, digF_t, digFK_s, atI_0, atI_1, atI_2, atI_m1, bury_n, bury_t0, bury_t1, bury_t2, bury_l0, bury_l1, hx, l1, hmL, hf1, hf2, key, q4, q3, e1, q1, e2, q2]
  · have q4 : fNe (bL xs) (.lst []) = .val (.bl true) := by
      unfold bL
      rw [fNe_lnil (okPs_bls xs)]
      cases xs with
      | nil => exact absurd rfl h0
      | cons x t => rfl
    obtain ⟨rr, hr, hb⟩ := row_ok ns 3 [200] (by decide) (by decide) (by decide) (by decide)
    obtain ⟨x0, _, rfl, a0, b0, hb⟩ := hb.c
    obtain rfl := hb.e
    simp only [List.map] at hr
    have hp : 0 < xs.length := List.length_pos_iff.mpr h0
    have mm0 := Int.emod_nonneg x0 (show (xs.length : Int) ≠ 0 by omega)
    have mm1 := Int.emod_lt_of_pos x0 (show 0 < (xs.length : Int) by omega)
    obtain ⟨p, hpp⟩ : ∃ p : Nat, x0 % (xs.length : Int) = (p : Int) := ⟨(x0 % (xs.length : Int)).toNat, by omega⟩
    have hpl : p < xs.length := by omega
    have hbl : fLen [bL xs] = .val (.int (xs.length : Int)) := by unfold bL; rw [fLen_l, List.length_map]
    have i1 : fIdx (bL xs) (.int (p : Int)) = .val (.bl (xs[p])) := bL_at (by omega) (by rw [Int.toNat_natCast]; simp [hpl])
    have i2 : fIdx (bL (xs.set p (!xs[p]))) (.int (p : Int)) = .val (.bl (!xs[p])) := bL_at (by omega) (by rw [Int.toNat_natCast]; simp [hpl])
    have hset : D.lst ((xs.map D.bl).set p (.bl (!xs[p]))) = bL (xs.set p (!xs[p])) := by unfold bL; rw [List.map_set]
    have hlen2 : (xs.set p (!xs[p])).length ≤ 200 := by rw [List.length_set]; omega
    have p1 : mPut false 2 mNil .n (mVar 7) (m1 fNot (m2 fIdx (mVar 2) (mVar 7))) [some (.z, .scr ns), some (.l .n, bL xs), some (.l .n, bL xs), a, b, c, none, some (.n, .int (p : Int))] = .next [some (.z, .scr ns), some (.l .n, bL xs), some (.l .n, bL (xs.set p (!xs[p]))), a, b, c, none, some (.n, .int (p : Int))] := by
      rw [← hset]
      refine put_0 (p := p) (q := (p : Int)) (ds := xs.map D.bl) (d := .bl (!xs[p])) (by simp (disch := first | omega | (simp only [List.length_cons, List.length_nil, List.length_map, List.length_set, List.length_append, List.length_replicate, Nat.zero_add, Nat.reduceAdd] <;> omega) | (simp only [noL, noLs, Bool.and_true, Bool.true_and, noLs_ints]; done) | (refine id ?_; with_unfolding_all rfl)) only [runF_ap, ini, List.replicate_succ, List.replicate_zero, List.length_cons, List.length_nil, List.length_set, Nat.reduceAdd, Nat.reduceSub, Nat.reduceLT, Nat.reduceLeDiff, Nat.zero_add, mIf_ap, brS_t, brS_f, brS_e, mSeq_ap, bindS_n, bindS_r, bindS_b, bindS_c, bindS_e, onE_v, onE_e, asgK_ok, mAsg_t, mAsg_f, mRet_ap, mExpr_t, mExpr_f, mRaise_ap, mNext_ap, mRetN_ap, mPass, mBrk, mCont, mRetV_ap, retK_s, mVar_ap, varK_s, mC_ap, bindE_v, bindE_e, m2_ap, b2_vv, b2_ve, b2_e, m1_ap, mN_ap, nK_i, nK_b, nK_n, nK_s, nK_e, nK_t, noL, noLs, Bool.and_true, Bool.true_and, mLN_ap, lnK_ok, mCons_ap, consA_v, consA_e, consA_ve, mNil_ap, mCall_ap, callK_v, callK_e, mTup_ap, mLst_ap, tupK_v, lstK_v, tupK_e, lstK_e, mAnd_ap, mOr_ap, andK_t, andK_f, orK_t, orK_f, andK_e, orK_e, mIfE_ap, ifK_t, ifK_f, mChain_ap, ch2_v, chK_t, chK_f, mSl_ap, slK_ii, slK_ni, slK_in, slK_nn, mInt_ap, intK_i, fAdd_i, fSub_i, fMul_l, fMul_r, fMod_i, fDiv_i, fPow_18, fPow_20, fPow_3, fShl_i, Int.one_mul, fNeg_i, fLt_t, fLt_f, fLe_t, fLe_f, fGt_t, fGt_f, fGe_t, fGe_f, fEq_t, fEq_f, fNe_t, fNe_f, fNot_b, Bool.not_true, Bool.not_false, fIsi_ap, isAdr_i, isAdr_b, isAdr_s, isAdr_l, isAdr_t, isAdr_n, isAdr_c, isK_inti, isK_intb, isK_ints, isK_intl, isK_intt, isK_intn, isK_booli, isK_boolb, isK_bools, isK_booll, isK_boolt, isK_booln, isK_stri, isK_strb, isK_strs, isK_strl, isK_strt, isK_strn, isK_listi, isK_listb, isK_lists, isK_listl, isK_listt, isK_listn, isK_tuplei, isK_tupleb, isK_tuples, isK_tuplel, isK_tuplet, isK_tuplen, isK_listscr, fMax_i, fMin_i, fIsN_n, fIsN_i, fIdx_0, fIdx_1, fIdx_2, fIdx_3, fIdx_4, fIdx_5, fIdx_6, fIdxT_0, fIdxT_1, fIdxT_2, fIdxT_3, fLen_l, fLen_t, fLen_s, fSl_l, fSl_s, fItL_l, fItL_s, fItT_t, mIter_ap, itK_v, mIt1_ap, it1K_v, fRng_1, fRng_2, mFor_t, mFor_f, forK_v, mLc_ap, lcK_v, lcK_e, mAppMv_ap, app1_l, mParN_ap, parK_v, mAsgTz_f, mAsgTz_t, tzK_2, mMut_ap, mutK_0, mut0_appS, mut0_appLa, mut0_ext, mut0_clr, mut0_clrLa, mAsgT_f, mAsgT_t, tK_2, vw_t, vw_f, mFrz_ap, frz_ap, frzK_s, frzK_n, finR_r, finR_nn, finR_nz, List.nil_append, finR_e, Fr.fz, look, dOf_nil, dOf_c, hOf_nil, hOf_c, hid, Option.map_some, Option.map_none, List.set_cons_zero, List.set_cons_succ, List.getElem?_cons_zero, List.getElem?_cons_succ, List.length_map, wipeE, mPut_ap, putK_0, put0_l, put0_la, Int.toNat_natCast, mutK_p, mutI_s, mutP_s, mutQ_app, mutQ_clr, putK_p, putI_s, putP_s, putQ_ok, mSnoc_k, snocK_0, snocK_1, snocK_2, intsD_n, intsD_c, consO_s, dig_n, dig_l, dig_t, digK_s, digF_n, digF_l, digF_t, digFK_s, atI_0, atI_1, atI_2, atI_m1, bury_n, bury_t0, bury_t1, bury_t2, bury_l0, bury_l1]) rfl ?_ (by rw [List.length_map]; exact ixN_pos hpl)
      rw [vw_f]
      simp (disch := first | omega | (simp only [List.length_cons, List.length_nil, List.length_map, List.length_set, List.length_append, List.length_replicate, Nat.zero_add, Nat.reduceAdd] <;> omega) | (simp only [noL, noLs, Bool.and_true, Bool.true_and, noLs_ints]; done) | (refine id ?_; with_unfolding_all rfl)) only [runF_ap, ini, List.replicate_succ, List.replicate_zero, List.length_cons, List.length_nil, List.length_set, Nat.reduceAdd, Nat.reduceSub, Nat.reduceLT, Nat.reduceLeDiff, Nat.zero_add, mIf_ap, brS_t, brS_f, brS_e, mSeq_ap, bindS_n, bindS_r, bindS_b, bindS_c, bindS_e, onE_v, onE_e, asgK_ok, mAsg_t, mAsg_f, mRet_ap, mExpr_t, mExpr_f, mRaise_ap, mNext_ap, mRetN_ap, mPass, mBrk, mCont, mRetV_ap, retK_s, mVar_ap, varK_s, mC_ap, bindE_v, bindE_e, m2_ap, b2_vv, b2_ve, b2_e, m1_ap, mN_ap, nK_i, nK_b, nK_n, nK_s, nK_e, nK_t, noL, noLs, Bool.and_true, Bool.true_and, mLN_ap, lnK_ok, mCons_ap, consA_v, consA_e, consA_ve, mNil_ap, mCall_ap, callK_v, callK_e, mTup_ap, mLst_ap, tupK_v, lstK_v, tupK_e, lstK_e, mAnd_ap, mOr_ap, andK_t, andK_f, orK_t, orK_f, andK_e, orK_e, mIfE_ap, ifK_t, ifK_f, mChain_ap, ch2_v, chK_t, chK_f, mSl_ap, slK_ii, slK_ni, slK_in, slK_nn, mInt_ap, intK_i, fAdd_i, fSub_i, fMul_l, fMul_r, fMod_i, fDiv_i, fPow_18, fPow_20, fPow_3, fShl_i, Int.one_mul, fNeg_i, fLt_t, fLt_f, fLe_t, fLe_f, fGt_t, fGt_f, fGe_t, fGe_f, fEq_t, fEq_f, fNe_t, fNe_f, fNot_b, Bool.not_true, Bool.not_false, fIsi_ap, isAdr_i, isAdr_b, isAdr_s, isAdr_l, isAdr_t, isAdr_n, isAdr_c, isK_inti, isK_intb, isK_ints, isK_intl, isK_intt, isK_intn, isK_booli, isK_boolb, isK_bools, isK_booll, isK_boolt, isK_booln, isK_stri, isK_strb, isK_strs, isK_strl, isK_strt, isK_strn, isK_listi, isK_listb, isK_lists, isK_listl, isK_listt, isK_listn, isK_tuplei, isK_tupleb, isK_tuples, isK_tuplel, isK_tuplet, isK_tuplen, isK_listscr, fMax_i, fMin_i, fIsN_n, fIsN_i, fIdx_0, fIdx_1, fIdx_2, fIdx_3, fIdx_4, fIdx_5, fIdx_6, fIdxT_0, fIdxT_1, fIdxT_2, fIdxT_3, fLen_l, fLen_t, fLen_s, fSl_l, fSl_s, fItL_l, fItL_s, fItT_t, mIter_ap, itK_v, mIt1_ap, it1K_v, fRng_1, fRng_2, mFor_t, mFor_f, forK_v, mLc_ap, lcK_v, lcK_e, mAppMv_ap, app1_l, mParN_ap, parK_v, mAsgTz_f, mAsgTz_t, tzK_2, mMut_ap, mutK_0, mut0_appS, mut0_appLa, mut0_ext, mut0_clr, mut0_clrLa, mAsgT_f, mAsgT_t, tK_2, vw_t, vw_f, mFrz_ap, frz_ap, frzK_s, frzK_n, finR_r, finR_nn, finR_nz, List.nil_append, finR_e, Fr.fz, look, dOf_nil, dOf_c, hOf_nil, hOf_c, hid, Option.map_some, Option.map_none, List.set_cons_zero, List.set_cons_succ, List.getElem?_cons_zero, List.getElem?_cons_succ, List.length_map, wipeE, mPut_ap, putK_0, put0_l, put0_la, Int.toNat_natCast, mutK_p, mutI_s, mutP_s, mutQ_app, mutQ_clr, putK_p, putI_s, putP_s, putQ_ok, mSnoc_k, snocK_0, snocK_1, snocK_2, intsD_n, intsD_c, consO_s, dig_n, dig_l, dig_t, digK_s, digF_n, digF_l, digF_t, digFK_s, atI_0, atI_1, atI_2, atI_m1, bury_n, bury_t0, bury_t1, bury_t2, bury_l0, bury_l1, i1]
    have p2 : mPut false 1 mNil .n (mVar 7) (mN (m2 fIdx (mVar 2) (mVar 7))) [some (.z, .scr ns), some (.l .n, bL xs), some (.l .n, bL (xs.set p (!xs[p]))), a, b, c, none, some (.n, .int (p : Int))] = .next [some (.z, .scr ns), some (.l .n, bL (xs.set p (!xs[p]))), some (.l .n, bL (xs.set p (!xs[p]))), a, b, c, none, some (.n, .int (p : Int))] := by
      rw [← hset]
      refine put_0 (p := p) (q := (p : Int)) (ds := xs.map D.bl) (d := .bl (!xs[p])) (by simp (disch := first | omega | (simp only [List.length_cons, List.length_nil, List.length_map, List.length_set, List.length_append, List.length_replicate, Nat.zero_add, Nat.reduceAdd] <;> omega) | (simp only [noL, noLs, Bool.and_true, Bool.true_and, noLs_ints]; done) | (refine id ?_; with_unfolding_all rfl)) only [runF_ap, ini, List.replicate_succ, List.replicate_zero, List.length_cons, List.length_nil, List.length_set, Nat.reduceAdd, Nat.reduceSub, Nat.reduceLT, Nat.reduceLeDiff, Nat.zero_add, mIf_ap, brS_t, brS_f, brS_e, mSeq_ap, bindS_n, bindS_r, bindS_b, bindS_c, bindS_e, onE_v, onE_e, asgK_ok, mAsg_t, mAsg_f, mRet_ap, mExpr_t, mExpr_f, mRaise_ap, mNext_ap, mRetN_ap, mPass, mBrk, mCont, mRetV_ap, retK_s, mVar_ap, varK_s, mC_ap, bindE_v, bindE_e, m2_ap, b2_vv, b2_ve, b2_e, m1_ap, mN_ap, nK_i, nK_b, nK_n, nK_s, nK_e, nK_t, noL, noLs, Bool.and_true, Bool.true_and, mLN_ap, lnK_ok, mCons_ap, consA_v, consA_e, consA_ve, mNil_ap, mCall_ap, callK_v, callK_e, mTup_ap, mLst_ap, tupK_v, lstK_v, tupK_e, lstK_e, mAnd_ap, mOr_ap, andK_t, andK_f, orK_t, orK_f, andK_e, orK_e, mIfE_ap, ifK_t, ifK_f, mChain_ap, ch2_v, chK_t, chK_f, mSl_ap, slK_ii, slK_ni, slK_in, slK_nn, mInt_ap, intK_i, fAdd_i, fSub_i, fMul_l, fMul_r, fMod_i, fDiv_i, fPow_18, fPow_20, fPow_3, fShl_i, Int.one_mul, fNeg_i, fLt_t, fLt_f, fLe_t, fLe_f, fGt_t, fGt_f, fGe_t, fGe_f, fEq_t, fEq_f, fNe_t, fNe_f, fNot_b, Bool.not_true, Bool.not_false, fIsi_ap, isAdr_i, isAdr_b, isAdr_s, isAdr_l, isAdr_t, isAdr_n, isAdr_c, isK_inti, isK_intb, isK_ints, isK_intl, isK_intt, isK_intn, isK_booli, isK_boolb, isK_bools, isK_booll, isK_boolt, isK_booln, isK_stri, isK_strb, isK_strs, isK_strl, isK_strt, isK_strn, isK_listi, isK_listb, isK_lists, isK_listl, isK_listt, isK_listn, isK_tuplei, isK_tupleb, isK_tuples, isK_tuplel, isK_tuplet, isK_tuplen, isK_listscr, fMax_i, fMin_i, fIsN_n, fIsN_i, fIdx_0, fIdx_1, fIdx_2, fIdx_3, fIdx_4, fIdx_5, fIdx_6, fIdxT_0, fIdxT_1, fIdxT_2, fIdxT_3, fLen_l, fLen_t, fLen_s, fSl_l, fSl_s, fItL_l, fItL_s, fItT_t, mIter_ap, itK_v, mIt1_ap, it1K_v, fRng_1, fRng_2, mFor_t, mFor_f, forK_v, mLc_ap, lcK_v, lcK_e, mAppMv_ap, app1_l, mParN_ap, parK_v, mAsgTz_f, mAsgTz_t, tzK_2, mMut_ap, mutK_0, mut0_appS, mut0_appLa, mut0_ext, mut0_clr, mut0_clrLa, mAsgT_f, mAsgT_t, tK_2, vw_t, vw_f, mFrz_ap, frz_ap, frzK_s, frzK_n, finR_r, finR_nn, finR_nz, List.nil_append, finR_e, Fr.fz, look, dOf_nil, dOf_c, hOf_nil, hOf_c, hid, Option.map_some, Option.map_none, List.set_cons_zero, List.set_cons_succ, List.getElem?_cons_zero, List.getElem?_cons_succ, List.length_map, wipeE, mPut_ap, putK_0, put0_l, put0_la, Int.toNat_natCast, mutK_p, mutI_s, mutP_s, mutQ_app, mutQ_clr, putK_p, putI_s, putP_s, putQ_ok, mSnoc_k, snocK_0, snocK_1, snocK_2, intsD_n, intsD_c, consO_s, dig_n, dig_l, dig_t, digK_s, digF_n, digF_l, digF_t, digFK_s, atI_0, atI_1, atI_2, atI_m1, bury_n, bury_t0, bury_t1, bury_t2, bury_l0, bury_l1]) rfl ?_ (by rw [List.length_map]; exact ixN_pos hpl)
      rw [vw_f, hset]
      simp (disch := first | omega | (simp only [List.length_cons, List.length_nil, List.length_map, List.length_set, List.length_append, List.length_replicate, Nat.zero_add, Nat.reduceAdd] <;> omega) | (simp only [noL, noLs, Bool.and_true, Bool.true_and, noLs_ints]; done) | (refine id ?_; with_unfolding_all rfl)) only [runF_ap, ini, List.replicate_succ, List.replicate_zero, List.length_cons, List.length_nil, List.length_set, Nat.reduceAdd, Nat.reduceSub, Nat.reduceLT, Nat.reduceLeDiff, Nat.zero_add, mIf_ap, brS_t, brS_f, brS_e, mSeq_ap, bindS_n, bindS_r, bindS_b, bindS_c, bindS_e, onE_v, onE_e, asgK_ok, mAsg_t, mAsg_f, mRet_ap, mExpr_t, mExpr_f, mRaise_ap, mNext_ap, mRetN_ap, mPass, mBrk, mCont, mRetV_ap, retK_s, mVar_ap, varK_s, mC_ap, bindE_v, bindE_e, m2_ap, b2_vv, b2_ve, b2_e, m1_ap, mN_ap, nK_i, nK_b, nK_n, nK_s, nK_e, nK_t, noL, noLs, Bool.and_true, Bool.true_and, mLN_ap, lnK_ok, mCons_ap, consA_v, consA_e, consA_ve, mNil_ap, mCall_ap, callK_v, callK_e, mTup_ap, mLst_ap, tupK_v, lstK_v, tupK_e, lstK_e, mAnd_ap, mOr_ap, andK_t, andK_f, orK_t, orK_f, andK_e, orK_e, mIfE_ap, ifK_t, ifK_f, mChain_ap, ch2_v, chK_t, chK_f, mSl_ap, slK_ii, slK_ni, slK_in, slK_nn, mInt_ap, intK_i, fAdd_i, fSub_i, fMul_l, fMul_r, fMod_i, fDiv_i, fPow_18, fPow_20, fPow_3, fShl_i, Int.one_mul, fNeg_i, fLt_t, fLt_f, fLe_t, fLe_f, fGt_t, fGt_f, fGe_t, fGe_f, fEq_t, fEq_f, fNe_t, fNe_f, fNot_b, Bool.not_true, Bool.not_false, fIsi_ap, isAdr_i, isAdr_b, isAdr_s, isAdr_l, isAdr_t, isAdr_n, isAdr_c, isK_inti, isK_intb, isK_ints, isK_intl, isK_intt, isK_intn, isK_booli, isK_boolb, isK_bools, isK_booll, isK_boolt, isK_booln, isK_stri, isK_strb, isK_strs, isK_strl, isK_strt, isK_strn, isK_listi, isK_listb, isK_lists, isK_listl, isK_listt, isK_listn, isK_tuplei, isK_tupleb, isK_tuples, isK_tuplel, isK_tuplet, isK_tuplen, isK_listscr, fMax_i, fMin_i, fIsN_n, fIsN_i, fIdx_0, fIdx_1, fIdx_2, fIdx_3, fIdx_4, fIdx_5, fIdx_6, fIdxT_0, fIdxT_1, fIdxT_2, fIdxT_3, fLen_l, fLen_t, fLen_s, fSl_l, fSl_s, fItL_l, fItL_s, fItT_t, mIter_ap, itK_v, mIt1_ap, it1K_v, fRng_1, fRng_2, mFor_t, mFor_f, forK_v, mLc_ap, lcK_v, lcK_e, mAppMv_ap, app1_l, mParN_ap, parK_v, mAsgTz_f, mAsgTz_t, tzK_2, mMut_ap, mutK_0, mut0_appS, mut0_appLa, mut0_ext, mut0_clr, mut0_clrLa, mAsgT_f, mAsgT_t, tK_2, vw_t, vw_f, mFrz_ap, frz_ap, frzK_s, frzK_n, finR_r, finR_nn, finR_nz, List.nil_append, finR_e, Fr.fz, look, dOf_nil, dOf_c, hOf_nil, hOf_c, hid, Option.map_some, Option.map_none, List.set_cons_zero, List.set_cons_succ, List.getElem?_cons_zero, List.getElem?_cons_succ, List.length_map, wipeE, mPut_ap, putK_0, put0_l, put0_la, Int.toNat_natCast, mutK_p, mutI_s, mutP_s, mutQ_app, mutQ_clr, putK_p, putI_s, putP_s, putQ_ok, mSnoc_k, snocK_0, snocK_1, snocK_2, intsD_n, intsD_c, consO_s, dig_n, dig_l, dig_t, digK_s, digF_n, digF_l, digF_t, digFK_s, atI_0, atI_1, atI_2, atI_m1, bury_n, bury_t0, bury_t1, bury_t2, bury_l0, bury_l1, i2]
    have hd := due_ok f1 _ a1 b1 hlen2
    have hb := blocks_ok f1 _ a1 b1 hlen2
    have hrt := rt f1 a1 _ hlen2
    generalize xs.set p (!xs[p]) = zs at p1 p2 hd hb hrt
    unfold m_law b_law
    generalize mPut false 2 mNil .n (mVar 7) (m1 fNot (m2 fIdx (mVar 2) (mVar 7))) = P1 at p1 ⊢
    generalize mPut false 1 mNil .n (mVar 7) (mN (m2 fIdx (mVar 2) (mVar 7))) = P2 at p2 ⊢
    simp (disch := first | omega | (simp only [List.length_cons, List.length_nil, List.length_map, List.length_set, List.length_append, List.length_replicate, Nat.zero_add, Nat.reduceAdd] <;> omega) | (simp only [noL, noLs, Bool.and_true, Bool.true_and, noLs_ints]; done) | (refine id ?_; with_unfolding_all rfl)) only [runF_ap, ini, List.replicate_succ, List.replicate_zero, List.length_cons, List.length_nil, List.length_set, Nat.reduceAdd, Nat.reduceSub, Nat.reduceLT, Nat.reduceLeDiff, Nat.zero_add, mIf_ap, brS_t, brS_f, brS_e, mSeq_ap, bindS_n, bindS_r, bindS_b, bindS_c, bindS_e, onE_v, onE_e, asgK_ok, mAsg_t, mAsg_f, mRet_ap, mExpr_t, mExpr_f, mRaise_ap, mNext_ap, mRetN_ap, mPass, mBrk, mCont, mRetV_ap, retK_s, mVar_ap, varK_s, mC_ap, bindE_v, bindE_e, m2_ap, b2_vv, b2_ve, b2_e, m1_ap, mN_ap, nK_i, nK_b, nK_n, nK_s, nK_e, nK_t, noL, noLs, Bool.and_true, Bool.true_and, mLN_ap, lnK_ok, mCons_ap, consA_v, consA_e, consA_ve, mNil_ap, mCall_ap, callK_v, callK_e, mTup_ap, mLst_ap, tupK_v, lstK_v, tupK_e, lstK_e, mAnd_ap, mOr_ap, andK_t, andK_f, orK_t, orK_f, andK_e, orK_e, mIfE_ap, ifK_t, ifK_f, mChain_ap, ch2_v, chK_t, chK_f, mSl_ap, slK_ii, slK_ni, slK_in, slK_nn, mInt_ap, intK_i, fAdd_i, fSub_i, fMul_l, fMul_r, fMod_i, fDiv_i, fPow_18, fPow_20, fPow_3, fShl_i, Int.one_mul, fNeg_i, fLt_t, fLt_f, fLe_t, fLe_f, fGt_t, fGt_f, fGe_t, fGe_f, fEq_t, fEq_f, fNe_t, fNe_f, fNot_b, Bool.not_true, Bool.not_false, fIsi_ap, isAdr_i, isAdr_b, isAdr_s, isAdr_l, isAdr_t, isAdr_n, isAdr_c, isK_inti, isK_intb, isK_ints, isK_intl, isK_intt, isK_intn, isK_booli, isK_boolb, isK_bools, isK_booll, isK_boolt, isK_booln, isK_stri, isK_strb, isK_strs, isK_strl, isK_strt, isK_strn, isK_listi, isK_listb, isK_lists, isK_listl, isK_listt, isK_listn, isK_tuplei, isK_tupleb, isK_tuples, isK_tuplel, isK_tuplet, isK_tuplen, isK_listscr, fMax_i, fMin_i, fIsN_n, fIsN_i, fIdx_0, fIdx_1, fIdx_2, fIdx_3, fIdx_4, fIdx_5, fIdx_6, fIdxT_0, fIdxT_1, fIdxT_2, fIdxT_3, fLen_l, fLen_t, fLen_s, fSl_l, fSl_s, fItL_l, fItL_s, fItT_t, mIter_ap, itK_v, mIt1_ap, it1K_v, fRng_1, fRng_2, mFor_t, mFor_f, forK_v, mLc_ap, lcK_v, lcK_e, mAppMv_ap, app1_l, mParN_ap, parK_v, mAsgTz_f, mAsgTz_t, tzK_2, mMut_ap, mutK_0, mut0_appS, mut0_appLa, mut0_ext, mut0_clr, mut0_clrLa, mAsgT_f, mAsgT_t, tK_2, vw_t, vw_f, mFrz_ap, frz_ap, frzK_s, frzK_n, finR_r, finR_nn, finR_nz, List.nil_append, finR_e, Fr.fz, look, dOf_nil, dOf_c, hOf_nil, hOf_c, hid, Option.map_some, Option.map_none, List.set_cons_zero, List.set_cons_succ, List.getElem?_cons_zero, List.getElem?_cons_succ, List.length_map, wipeE, mPut_ap, putK_0, put0_l, put0_la, Int.toNat_natCast, mutK_p, mutI_s, mutP_s, mutQ_app, mutQ_clr, putK_p, putI_s, putP_s, putQ_ok, mSnoc_k, snocK_0, snocK_1, snocK_2, intsD_n, intsD_c, consO_s, dig_n, dig_l, dig_t, digK_s, digF_n, digF_l, digF_t, digFK_s, atI_0, atI_1, atI_2, atI_m1, bury_n, bury_t0, bury_t1, bury_t2, bury_l0, bury_l1, hx, l1, hmL, hf1, hf2, key, q4, hr, hbl, hpp, p1, p2, hd, hb, hrt, q3, e1, q1, e2, q2]

end Lw

namespace Lw
open PySem L2 U
open PySem.W (Frag)
def fn : List He.FnD := [⟨("joined", none), "joined", "joined", defArgs s_joined, defBody s_joined, defScope s_joined⟩, ⟨("page_block", none), "page_block", "page_block", defArgs s_page_block, defBody s_page_block, defScope s_page_block⟩, ⟨("all_joined", none), "all_joined", "all_joined", defArgs s_all_joined, defBody s_all_joined, defScope s_all_joined⟩, ⟨("blocks", none), "blocks", "blocks", defArgs s_blocks, defBody s_blocks, defScope s_blocks⟩, ⟨("_law_cell", none), "_law_cell", "_law_cell", defArgs s__law_cell, defBody s__law_cell, defScope s__law_cell⟩, ⟨("_law_mix", none), "_law_mix", "_law_mix", defArgs s__law_mix, defBody s__law_mix, defScope s__law_mix⟩, ⟨("_law_row", none), "_law_row", "_law_row", defArgs s__law_row, defBody s__law_row, defScope s__law_row⟩, ⟨("_law_empties", none), "_law_empties", "_law_empties", defArgs s__law_empties, defBody s__law_empties, defScope s__law_empties⟩, ⟨("_law_block", none), "_law_block", "_law_block", defArgs s__law_block, defBody s__law_block, defScope s__law_block⟩, ⟨("_law_whole", none), "_law_whole", "_law_whole", defArgs s__law_whole, defBody s__law_whole, defScope s__law_whole⟩, ⟨("_law_is_block", none), "_law_is_block", "_law_is_block", defArgs s__law_is_block, defBody s__law_is_block, defScope s__law_is_block⟩, ⟨("_law_fan", none), "_law_fan", "_law_fan", defArgs s__law_fan, defBody s__law_fan, defScope s__law_fan⟩, ⟨("_law_counts", none), "_law_counts", "_law_counts", defArgs s__law_counts, defBody s__law_counts, defScope s__law_counts⟩, ⟨("_law_reach", none), "_law_reach", "_law_reach", defArgs s__law_reach, defBody s__law_reach, defScope s__law_reach⟩, ⟨("_law_due", none), "_law_due", "_law_due", defArgs s__law_due, defBody s__law_due, defScope s__law_due⟩, ⟨("_law_right", none), "_law_right", "_law_right", defArgs s__law_right, defBody s__law_right, defScope s__law_right⟩, ⟨("law", none), "law", "law", defArgs s_law, defBody s_law, defScope s_law⟩]
def fa : List He.Fa := ([.free "all", .free "bool", .free "int", .free "isinstance", .free "len", .free "list", .free "max", .free "min", .free "range", .free "tuple", .free "zip", .glo "joined", .glo "page_block", .glo "all_joined", .glo "blocks", .glo "_law_cell", .glo "_law_mix", .glo "_law_row", .glo "_law_empties", .glo "_law_block", .glo "_law_whole", .glo "_law_is_block", .glo "_law_fan", .glo "_law_counts", .glo "_law_reach", .glo "_law_due", .glo "_law_right", .glo "law", .keep "joined", .keep "page_block"] : List He.Fa) ++ (([.keep "all_joined", .keep "blocks", .keep "_law_cell", .keep "_law_mix", .keep "_law_row", .keep "_law_empties", .keep "_law_block", .keep "_law_whole", .keep "_law_is_block", .keep "_law_fan", .keep "_law_counts", .keep "_law_reach", .keep "_law_due", .keep "_law_right", .keep "law"] : List He.Fa))
def fb : List (Frag → Bool) := []
theorem tx {K : Frag} {h : Heap} {mg : Str → Option Value} (X : K.In h) (G : h.Ns mainGlobals mg) (c : He.SaysE fa fn K) (cu : SaysU fb fa fn K) : Tx K mg where
  b_all := He.free_ok X G (c.fact 0 rfl)
  b_bool := He.free_ok X G (c.fact 1 rfl)
  b_int := He.free_ok X G (c.fact 2 rfl)
  b_isinstance := He.free_ok X G (c.fact 3 rfl)
  b_len := He.free_ok X G (c.fact 4 rfl)
  b_list := He.free_ok X G (c.fact 5 rfl)
  b_max := He.free_ok X G (c.fact 6 rfl)
  b_min := He.free_ok X G (c.fact 7 rfl)
  b_range := He.free_ok X G (c.fact 8 rfl)
  b_tuple := He.free_ok X G (c.fact 9 rfl)
  b_zip := He.free_ok X G (c.fact 10 rfl)
  g_joined := He.glo_ok X G (c.fact 11 rfl)
  g_page_block := He.glo_ok X G (c.fact 12 rfl)
  g_all_joined := He.glo_ok X G (c.fact 13 rfl)
  g_blocks := He.glo_ok X G (c.fact 14 rfl)
  g__law_cell := He.glo_ok X G (c.fact 15 rfl)
  g__law_mix := He.glo_ok X G (c.fact 16 rfl)
  g__law_row := He.glo_ok X G (c.fact 17 rfl)
  g__law_empties := He.glo_ok X G (c.fact 18 rfl)
  g__law_block := He.glo_ok X G (c.fact 19 rfl)
  g__law_whole := He.glo_ok X G (c.fact 20 rfl)
  g__law_is_block := He.glo_ok X G (c.fact 21 rfl)
  g__law_fan := He.glo_ok X G (c.fact 22 rfl)
  g__law_counts := He.glo_ok X G (c.fact 23 rfl)
  g__law_reach := He.glo_ok X G (c.fact 24 rfl)
  g__law_due := He.glo_ok X G (c.fact 25 rfl)
  g__law_right := He.glo_ok X G (c.fact 26 rfl)
  g_law := He.glo_ok X G (c.fact 27 rfl)
theorem fx {K : Frag} (c : He.SaysE fa fn K) : Fx K where
  d_joined := by obtain ⟨oc, od, osl, kV, doc, pm, an, cdv, ct, l1, l2⟩ := c.def_ 0 (d := ⟨("joined", none), "joined", "joined", defArgs s_joined, defBody s_joined, defScope s_joined⟩) rfl; exact ⟨_, fun_mk (st := s_joined) l1 l2 (He.keep_ok (c.fact 28 rfl))⟩
  d_page_block := by obtain ⟨oc, od, osl, kV, doc, pm, an, cdv, ct, l1, l2⟩ := c.def_ 1 (d := ⟨("page_block", none), "page_block", "page_block", defArgs s_page_block, defBody s_page_block, defScope s_page_block⟩) rfl; exact ⟨_, fun_mk (st := s_page_block) l1 l2 (He.keep_ok (c.fact 29 rfl))⟩
  d_all_joined := by obtain ⟨oc, od, osl, kV, doc, pm, an, cdv, ct, l1, l2⟩ := c.def_ 2 (d := ⟨("all_joined", none), "all_joined", "all_joined", defArgs s_all_joined, defBody s_all_joined, defScope s_all_joined⟩) rfl; exact ⟨_, fun_mk (st := s_all_joined) l1 l2 (He.keep_ok (c.fact 30 rfl))⟩
  d_blocks := by obtain ⟨oc, od, osl, kV, doc, pm, an, cdv, ct, l1, l2⟩ := c.def_ 3 (d := ⟨("blocks", none), "blocks", "blocks", defArgs s_blocks, defBody s_blocks, defScope s_blocks⟩) rfl; exact ⟨_, fun_mk (st := s_blocks) l1 l2 (He.keep_ok (c.fact 31 rfl))⟩
  d__law_cell := by obtain ⟨oc, od, osl, kV, doc, pm, an, cdv, ct, l1, l2⟩ := c.def_ 4 (d := ⟨("_law_cell", none), "_law_cell", "_law_cell", defArgs s__law_cell, defBody s__law_cell, defScope s__law_cell⟩) rfl; exact ⟨_, fun_mk (st := s__law_cell) l1 l2 (He.keep_ok (c.fact 32 rfl))⟩
  d__law_mix := by obtain ⟨oc, od, osl, kV, doc, pm, an, cdv, ct, l1, l2⟩ := c.def_ 5 (d := ⟨("_law_mix", none), "_law_mix", "_law_mix", defArgs s__law_mix, defBody s__law_mix, defScope s__law_mix⟩) rfl; exact ⟨_, fun_mk (st := s__law_mix) l1 l2 (He.keep_ok (c.fact 33 rfl))⟩
  d__law_row := by obtain ⟨oc, od, osl, kV, doc, pm, an, cdv, ct, l1, l2⟩ := c.def_ 6 (d := ⟨("_law_row", none), "_law_row", "_law_row", defArgs s__law_row, defBody s__law_row, defScope s__law_row⟩) rfl; exact ⟨_, fun_mk (st := s__law_row) l1 l2 (He.keep_ok (c.fact 34 rfl))⟩
  d__law_empties := by obtain ⟨oc, od, osl, kV, doc, pm, an, cdv, ct, l1, l2⟩ := c.def_ 7 (d := ⟨("_law_empties", none), "_law_empties", "_law_empties", defArgs s__law_empties, defBody s__law_empties, defScope s__law_empties⟩) rfl; exact ⟨_, fun_mk (st := s__law_empties) l1 l2 (He.keep_ok (c.fact 35 rfl))⟩
  d__law_block := by obtain ⟨oc, od, osl, kV, doc, pm, an, cdv, ct, l1, l2⟩ := c.def_ 8 (d := ⟨("_law_block", none), "_law_block", "_law_block", defArgs s__law_block, defBody s__law_block, defScope s__law_block⟩) rfl; exact ⟨_, fun_mk (st := s__law_block) l1 l2 (He.keep_ok (c.fact 36 rfl))⟩
  d__law_whole := by obtain ⟨oc, od, osl, kV, doc, pm, an, cdv, ct, l1, l2⟩ := c.def_ 9 (d := ⟨("_law_whole", none), "_law_whole", "_law_whole", defArgs s__law_whole, defBody s__law_whole, defScope s__law_whole⟩) rfl; exact ⟨_, fun_mk (st := s__law_whole) l1 l2 (He.keep_ok (c.fact 37 rfl))⟩
  d__law_is_block := by obtain ⟨oc, od, osl, kV, doc, pm, an, cdv, ct, l1, l2⟩ := c.def_ 10 (d := ⟨("_law_is_block", none), "_law_is_block", "_law_is_block", defArgs s__law_is_block, defBody s__law_is_block, defScope s__law_is_block⟩) rfl; exact ⟨_, fun_mk (st := s__law_is_block) l1 l2 (He.keep_ok (c.fact 38 rfl))⟩
  d__law_fan := by obtain ⟨oc, od, osl, kV, doc, pm, an, cdv, ct, l1, l2⟩ := c.def_ 11 (d := ⟨("_law_fan", none), "_law_fan", "_law_fan", defArgs s__law_fan, defBody s__law_fan, defScope s__law_fan⟩) rfl; exact ⟨_, fun_mk (st := s__law_fan) l1 l2 (He.keep_ok (c.fact 39 rfl))⟩
  d__law_counts := by obtain ⟨oc, od, osl, kV, doc, pm, an, cdv, ct, l1, l2⟩ := c.def_ 12 (d := ⟨("_law_counts", none), "_law_counts", "_law_counts", defArgs s__law_counts, defBody s__law_counts, defScope s__law_counts⟩) rfl; exact ⟨_, fun_mk (st := s__law_counts) l1 l2 (He.keep_ok (c.fact 40 rfl))⟩
  d__law_reach := by obtain ⟨oc, od, osl, kV, doc, pm, an, cdv, ct, l1, l2⟩ := c.def_ 13 (d := ⟨("_law_reach", none), "_law_reach", "_law_reach", defArgs s__law_reach, defBody s__law_reach, defScope s__law_reach⟩) rfl; exact ⟨_, fun_mk (st := s__law_reach) l1 l2 (He.keep_ok (c.fact 41 rfl))⟩
  d__law_due := by obtain ⟨oc, od, osl, kV, doc, pm, an, cdv, ct, l1, l2⟩ := c.def_ 14 (d := ⟨("_law_due", none), "_law_due", "_law_due", defArgs s__law_due, defBody s__law_due, defScope s__law_due⟩) rfl; exact ⟨_, fun_mk (st := s__law_due) l1 l2 (He.keep_ok (c.fact 42 rfl))⟩
  d__law_right := by obtain ⟨oc, od, osl, kV, doc, pm, an, cdv, ct, l1, l2⟩ := c.def_ 15 (d := ⟨("_law_right", none), "_law_right", "_law_right", defArgs s__law_right, defBody s__law_right, defScope s__law_right⟩) rfl; exact ⟨_, fun_mk (st := s__law_right) l1 l2 (He.keep_ok (c.fact 43 rfl))⟩
  d_law := by obtain ⟨oc, od, osl, kV, doc, pm, an, cdv, ct, l1, l2⟩ := c.def_ 16 (d := ⟨("law", none), "law", "law", defArgs s_law, defBody s_law, defScope s_law⟩) rfl; exact ⟨_, fun_mk (st := s_law) l1 l2 (He.keep_ok (c.fact 44 rfl))⟩
abbrev R : PySem.W.OpenRow := PySem.W.OpenLaw.row PySem.Challenge.rw_ullage_k72_blocks_of_nodes
abbrev hk : PySem.W.Hook := hookU 5 fb fa fn
def ob (s : PySem.W.SharedT) : Bool × He.Al := obsUG 5 fb fa fn (HandSHeadRun.getT s)
theorem ob_eq (s : PySem.W.SharedT) : ob s = hk.obs s.abs := obsUG_eq (HandSHeadRun.getT_eq s)
def loose : List Str := ["joined", "page_block", "all_joined", "blocks", "_law_cell", "_law_mix", "_law_row", "_law_empties", "_law_block", "_law_whole", "_law_is_block", "_law_fan", "_law_counts", "_law_reach", "_law_due", "_law_right"]
theorem run (w : World) : HandSHeadRun.RunEq R (PySem.W.view R.prog [18]) hk ob 4000 loose w := by
  intro os
  kernel_rfl
end Lw
open PySem PySem.W PySem.Calls PyProof.Rows
theorem PySem.Challenge.cw_ullage_k72_blocks_of_nodes_holds : PySem.Challenge.rw_ullage_k72_blocks_of_nodes.Holds := by
  w_on; o_law
  refine HandSHeadRun.head_any (r := OpenLaw.row PySem.Challenge.rw_ullage_k72_blocks_of_nodes) (q := view (OpenLaw.row PySem.Challenge.rw_ullage_k72_blocks_of_nodes).prog [18]) (H := Lw.hk) (ob := Lw.ob) (M := 4000) (loose := Lw.loose) (d := HandSHeadRun.topDef (OpenLaw.row PySem.Challenge.rw_ullage_k72_blocks_of_nodes).prog 18) (kwd := []) Lw.ob_eq
    (by kernel_rfl) (fun s => by kernel_rfl) Lw.run (by kernel_rfl) (by kernel_rfl) (by kernel_rfl) (by rfl) (by first | assumption | decide +kernel) (by decide +kernel) ⟨rfl, rfl, rfl, rfl, rfl, by decide +kernel⟩ ?hw ?hc
  case hw => w_witness2
  case hc =>
    refine L2.walk_ofE (l := PySem.Challenge.rw_ullage_k72_blocks_of_nodes) (n := 63) (k := 4) (x := "_law_script") (CX := L2.CX0) rfl (by decide) (by kernel_rfl) ⟨rfl, by decide, by decide⟩ ?F (fun _ _ _ _ z => z)
    intro w mg fa h Y G hmg0
    obtain ⟨K, KX, cu⟩ := Y
    have c := cu.e
    have hmg : mg ("law" : PySem.Str) = some (.ref fa) := by
      have e : (HandSHeadRun.topDef (OpenLaw.row PySem.Challenge.rw_ullage_k72_blocks_of_nodes).prog 18).name = ("law" : PySem.Str) := by kernel_rfl
      rw [← e]
      exact hmg0
    have T := Lw.tx KX G c cu
    have e := hmg.symm.trans T.g_law
    cases e
    obtain ⟨fd, F0⟩ := (Lw.fx c).d_law
    have key : ∀ base : Heap, L2.FnOk (PySem.Challenge.rw_ullage_k72_blocks_of_nodes).prog w K mg base (L2.CX (PySem.Challenge.rw_ullage_k72_blocks_of_nodes).prog w) 4 (He.ga K "law") fd Lw.P_law (U.spD K mg U.Fr.n Lw.m_law) := fun base => Lw.w_law_fd T (Lw.fx c) F0
    refine ⟨K, fd, U.spLaw K mg U.Fr.n Lw.m_law, KX, fun s v => ?_, fun H a ns hl _ hS => U.sp_law Lw.law_true H a ns hl hS, fun base _ _ => U.fn0 (key base)⟩
    obtain ⟨oc, od, kV, doc, pm, an, cdv, ct, osl, rfl, lk, hcd⟩ := F0.ex
    exact .of_eq rfl
